import PyProof.Rows.All
import Wide.All
import OpenK.AllK
import Wide.FinOn
import HandS.ForMost
import HandS.Exc
import HandS.TryOnly
import HandS.ExcOwn
import HandS.WordsExc
import HandS.Evl
import HandS.Steps
import HandS.More
import HandS.IsInst
import HandS.Codes
import HandS.Conv
import HandS.Walk
import HandS.Zip
import HandS.Replace
import KE.KSortedM
import KE.KDictOf
import HandS.TupAny
import HandS.Style
import HandS.RaiseMore
import HandS.FStr
import KE.RegKIsAll
import PySem.Challenge.RW_retryhall_k04_parts_shown_and_long
set_option maxRecDepth 100000
set_option maxHeartbeats 0
theorem PySem.W.Fast.tw18217425879429739042 : True := trivial
theorem PySem.W.Fast.tw7690781299676340593 : True := trivial
theorem PySem.W.Fast.tw17064049055431945693 : True := trivial
theorem PySem.W.Fast.tw14851300201937089536 : True := trivial
theorem PySem.W.Fast.tw1492572199282358220 : True := trivial
theorem PySem.W.Fast.tw15495046545789336896 : True := trivial
theorem PySem.W.Fast.tw3454532699681267989 : True := trivial
theorem PySem.W.Fast.tw10191468803702163250 : True := trivial
theorem PySem.W.Fast.tw6363935026336774910 : True := trivial
theorem PySem.W.Fast.tw793110588875782132 : True := trivial
theorem PySem.W.Fast.tw11397226088394806209 : True := trivial
theorem PySem.W.Fast.tw4180534845572998454 : True := trivial
theorem PySem.W.Fast.tw6319245950227222183 : True := trivial
theorem PySem.W.Fast.tw15495640751261243477 : True := trivial
theorem PySem.W.Fast.tw15692488173185908630 : True := trivial
theorem PySem.W.Fast.tw17171408884398296468 : True := trivial
theorem PySem.W.Fast.tw12767895571376819485 : True := trivial
theorem PySem.W.Fast.tw18420684147890570857 : True := trivial
theorem PySem.W.Fast.tw9009976453753902283 : True := trivial
theorem PySem.W.Fast.tw13644863716117943015 : True := trivial
theorem PySem.W.Fast.tw15555352630401272556 : True := trivial
theorem PySem.W.Fast.tw5565865366562732942 : True := trivial
theorem PySem.W.Fast.tw17539624801554158597 : True := trivial
theorem PySem.W.Fast.tw2444333754620572432 : True := trivial
theorem PySem.W.Fast.tw6576563354315373208 : True := trivial
theorem PySem.W.Fast.tw15455192245011911483 : True := trivial
theorem PySem.W.Fast.tw9376432397480100924 : True := trivial
theorem PySem.W.Fast.tw1432046253572946743 : True := trivial
theorem PySem.W.Fast.tw10980985771020614378 : True := trivial
theorem PySem.W.Fast.tw3347522087705953689 : True := trivial
theorem PySem.W.Fast.tw4222030345550309617 : True := trivial
theorem PySem.W.Fast.tw18037607321961849833 : True := trivial
theorem PySem.W.Fast.tw2492398013603721696 : True := trivial
theorem PySem.W.Fast.tw7500578952775999805 : True := trivial
theorem PySem.W.Fast.tw14866294709675841352 : True := trivial
theorem PySem.W.Fast.tw5186702542725267606 : True := trivial
theorem PySem.W.Fast.tw15856085323718115489 : True := trivial
theorem PySem.W.Fast.tw7775656582043288556 : True := trivial
theorem PySem.W.Fast.tw10637382801831590624 : True := trivial
theorem PySem.W.Fast.tw15218409824476337505 : True := trivial
theorem PySem.W.Fast.tw11003522411914011892 : True := trivial
theorem PySem.W.Fast.tw380551795834923453 : True := trivial
theorem PySem.W.Fast.tw1387140005369379920 : True := trivial
theorem PySem.W.Fast.tw13215987799638630658 : True := trivial
theorem PySem.W.Fast.tw16600697674125516503 : True := trivial
theorem PySem.W.Fast.tw15357413384895703094 : True := trivial
theorem PySem.W.Fast.tw15433778855409738574 : True := trivial
theorem PySem.W.Fast.tw17310232765124828094 : True := trivial
theorem PySem.W.Fast.tw3104869508676251076 : True := trivial
theorem PySem.W.Fast.tw17373605925078266488 : True := trivial
theorem PySem.W.Fast.tw3029923062348275565 : True := trivial
theorem PySem.W.Fast.tw6762411884008024328 : True := trivial
theorem PySem.W.Fast.tw16182166116746145070 : True := trivial
theorem PySem.W.Fast.tw11501493667444600455 : True := trivial
theorem PySem.W.Fast.tw7520897444453643297 : True := trivial
theorem PySem.W.Fast.tw15019589408041810479 : True := trivial
theorem PySem.W.Fast.tw17148939630295153841 : True := trivial
theorem PySem.W.Fast.tw7264832495790776342 : True := trivial
theorem PySem.W.Fast.tw4853875686684808822 : True := trivial
theorem PySem.W.Fast.tw17426803591699834229 : True := trivial
theorem PySem.W.Fast.tw3637956620552584080 : True := trivial
theorem PySem.W.Fast.tw12040950763823941150 : True := trivial
theorem PySem.W.Fast.tw17058043643430572136 : True := trivial
theorem PySem.W.Fast.tw14778246590894455795 : True := trivial
theorem PySem.W.Fast.tw13591665072127599006 : True := trivial
theorem PySem.W.Fast.tw2259283403940255519 : True := trivial
theorem PySem.W.Fast.tw3309385862628268227 : True := trivial
theorem PySem.W.Fast.tw4097878301386077548 : True := trivial
theorem PySem.W.Fast.tw11768556781201283546 : True := trivial
theorem PySem.W.Fast.tw13920451410433386788 : True := trivial
theorem PySem.W.Fast.tw16819757491775695488 : True := trivial
theorem PySem.W.Fast.tw8912109000977803534 : True := trivial
theorem PySem.W.Fast.tw10794539327621756339 : True := trivial
theorem PySem.W.Fast.tw9712062623587296243 : True := trivial
theorem PySem.W.Fast.tw12279458588883330074 : True := trivial
theorem PySem.W.Fast.tw5974747385549142715 : True := trivial
theorem PySem.W.Fast.tw15777417870217779058 : True := trivial
theorem PySem.W.Fast.tw2692577261975314170 : True := trivial
theorem PySem.W.Fast.tw1915355723661601525 : True := trivial
theorem PySem.W.Fast.tw10308630037399616640 : True := trivial
theorem PySem.W.Fast.tw9632240739211628837 : True := trivial
theorem PySem.W.Fast.tw6514270044876335833 : True := trivial
theorem PySem.W.Fast.tw6517420531450932803 : True := trivial
theorem PySem.W.Fast.tw1481306773928788652 : True := trivial
theorem PySem.W.Fast.tw16441343251723185686 : True := trivial
theorem PySem.W.Fast.tw3722407332319778293 : True := trivial
theorem PySem.W.Fast.tw10520708036704913452 : True := trivial
theorem PySem.W.Fast.tw5743272961707748269 : True := trivial
theorem PySem.W.Fast.tw14490805812276252184 : True := trivial
theorem PySem.W.Fast.tw15346776135240706735 : True := trivial
theorem PySem.W.Fast.tw11567793932995805992 : True := trivial
theorem PySem.W.Fast.tw3459177333116241756 : True := trivial
theorem PySem.W.Fast.tw12196102279242023910 : True := trivial
theorem PySem.W.Fast.tw3675003878531611407 : True := trivial
theorem PySem.W.Fast.tw8044627912794625485 : True := trivial
theorem PySem.W.Fast.tw2931350205703139956 : True := trivial
theorem PySem.W.Fast.tw12157774789330494600 : True := trivial
theorem PySem.W.Fast.tw2474385512953318595 : True := trivial
theorem PySem.W.Fast.tw393777342233513030 : True := trivial
theorem PySem.W.Fast.tw17134137230698726360 : True := trivial
theorem PySem.W.Fast.tw2432719036910562350 : True := trivial
theorem PySem.W.Fast.tw1876874658512188073 : True := trivial
theorem PySem.W.Fast.tw14861142084213429707 : True := trivial
theorem PySem.W.Fast.tw7264747829780590272 : True := trivial
theorem PySem.W.Fast.tw2900521885403438998 : True := trivial
theorem PySem.W.Fast.tw4948681295620325168 : True := trivial
theorem PySem.W.Fast.tw10620702845123611510 : True := trivial
theorem PySem.W.Fast.tw15687357966817026827 : True := trivial
theorem PySem.W.Fast.tw3403885105871051244 : True := trivial
theorem PySem.W.Fast.tw15081952295456738597 : True := trivial
theorem PySem.W.Fast.tw7564893471319685618 : True := trivial
theorem PySem.W.Fast.tw11544005556022321378 : True := trivial
theorem PySem.W.Fast.tw2897182027104017338 : True := trivial
theorem PySem.W.Fast.tw11203653002601962611 : True := trivial
theorem PySem.W.Fast.tw10114687019242866805 : True := trivial
theorem PySem.W.Fast.tw12789948187632599661 : True := trivial
theorem PySem.W.Fast.tw5093844753825501678 : True := trivial
theorem PySem.W.Fast.tw10000659154215984210 : True := trivial
theorem PySem.W.Fast.tw16509133365631543560 : True := trivial
theorem PySem.W.Fast.tw11307810262427638570 : True := trivial
theorem PySem.W.Fast.tw15345673319531526468 : True := trivial
theorem PySem.W.Fast.tw15831825068890884973 : True := trivial
theorem PySem.W.Fast.tw7131478633701273553 : True := trivial
theorem PySem.W.Fast.tw8359974220541273080 : True := trivial
theorem PySem.W.Fast.tw4974838573098566835 : True := trivial
theorem PySem.W.Fast.tw6079606635558062882 : True := trivial
theorem PySem.W.Fast.tw13823659717132708998 : True := trivial
theorem PySem.W.Fast.tw7237477044264924467 : True := trivial
theorem PySem.W.Fast.tw4809700843559422414 : True := trivial
theorem PySem.W.Fast.tw8377939405818527871 : True := trivial
theorem PySem.W.Fast.tw7716775080556632068 : True := trivial
theorem PySem.W.Fast.tw16689276306221119093 : True := trivial
theorem PySem.W.Fast.tw13126883054959075340 : True := trivial
theorem PySem.W.Fast.tw10280344969587662109 : True := trivial
theorem PySem.W.Fast.tw18433782714811263769 : True := trivial
theorem PySem.W.Fast.tw5378223846334236877 : True := trivial
theorem PySem.W.Fast.tw15653833041969437693 : True := trivial
theorem PySem.W.Fast.tw8818361273377385556 : True := trivial
theorem PySem.W.Fast.tw661094438316891706 : True := trivial
theorem PySem.W.Fast.tw10347721845891545455 : True := trivial
theorem PySem.W.Fast.tw11582639090358034856 : True := trivial
theorem PySem.W.Fast.tw8267379385287041480 : True := trivial
theorem PySem.W.Fast.tw16512061648005776358 : True := trivial
theorem PySem.W.Fast.tw7345867006737249934 : True := trivial
theorem PySem.W.Fast.tw11340583033804451191 : True := trivial
theorem PySem.W.Fast.tw4720518438539838793 : True := trivial
theorem PySem.W.Fast.tw16195343467030096096 : True := trivial
theorem PySem.W.Fast.tw8293738852722065935 : True := trivial
theorem PySem.W.Fast.tw9895519428754156339 : True := trivial
theorem PySem.W.Fast.tw10894582044688830666 : True := trivial
theorem PySem.W.Fast.tw13430556525902518388 : True := trivial
theorem PySem.W.Fast.tw17377755998996895883 : True := trivial
theorem PySem.W.Fast.tw17913014802776876433 : True := trivial
theorem PySem.W.Fast.tw11524631915543368170 : True := trivial
theorem PySem.W.Fast.tw1248318103787358951 : True := trivial
theorem PySem.W.Fast.tw10787185659783765156 : True := trivial
theorem PySem.W.Fast.tw9419586594948854209 : True := trivial
theorem PySem.W.Fast.tw8032455492793988690 : True := trivial
theorem PySem.W.Fast.tw9320061442247160680 : True := trivial
theorem PySem.W.Fast.tw4275875993512088092 : True := trivial
theorem PySem.W.Fast.tw14235822786525837573 : True := trivial
theorem PySem.W.Fast.tw5869335822210632429 : True := trivial
theorem PySem.W.Fast.tw13015592640262586421 : True := trivial
theorem PySem.W.Fast.tw5835635286264133147 : True := trivial
theorem PySem.W.Fast.tw6612621628397996535 : True := trivial
theorem PySem.W.Fast.tw9700236059264385346 : True := trivial
theorem PySem.W.Fast.tw10449610595162332412 : True := trivial
theorem PySem.W.Fast.tw14285820811677015718 : True := trivial
theorem PySem.W.Fast.tw11084956673353517598 : True := trivial
theorem PySem.W.Fast.tw13443186454673908283 : True := trivial
theorem PySem.W.Fast.tw6172414141559930076 : True := trivial
theorem PySem.W.Fast.tw10283044287991458115 : True := trivial
theorem PySem.W.Fast.tw14655715176893788627 : True := trivial
theorem PySem.W.Fast.tw14865524602482644725 : True := trivial
theorem PySem.W.Fast.tw18342291306375759898 : True := trivial
theorem PySem.W.Fast.tw14979823199501431826 : True := trivial
theorem PySem.W.Fast.tw403178369863984395 : True := trivial
theorem PySem.W.Fast.tw1120625948865530712 : True := trivial
theorem PySem.W.Fast.tw14980035619116230959 : True := trivial
theorem PySem.W.Fast.tw3317392233231675409 : True := trivial
theorem PySem.W.Fast.tw11537104997802602546 : True := trivial
theorem PySem.W.Fast.tw14685973123183726302 : True := trivial
theorem PySem.W.Fast.tw140383389314840585 : True := trivial
theorem PySem.W.Fast.tw13066869159858046311 : True := trivial
theorem PySem.W.Fast.tw4567409991329466019 : True := trivial
theorem PySem.W.Fast.tw6917523853070256536 : True := trivial
theorem PySem.W.Fast.tw15786883801426319563 : True := trivial
theorem PySem.W.Fast.tw11624074598133228168 : True := trivial
theorem PySem.W.Fast.tw3214906565285535726 : True := trivial
theorem PySem.W.Fast.tw14442768679490829959 : True := trivial
theorem PySem.W.Fast.tw950863076388603160 : True := trivial
theorem PySem.W.Fast.tw15002605796074780025 : True := trivial
theorem PySem.W.Fast.tw16268680771725329362 : True := trivial
theorem PySem.W.Fast.tw3865884297467315386 : True := trivial
theorem PySem.W.Fast.tw884640484361390406 : True := trivial
theorem PySem.W.Fast.tw1083030301627605707 : True := trivial
theorem PySem.W.Fast.tw17522121583174356804 : True := trivial
theorem PySem.W.Fast.tw10591640985110113184 : True := trivial
theorem PySem.W.Fast.tw4954322712058008046 : True := trivial
theorem PySem.W.Fast.tw2655665482296022762 : True := trivial
theorem PySem.W.Fast.tw3032098723428058838 : True := trivial
theorem PySem.W.Fast.tw1101639954964109382 : True := trivial
theorem PySem.W.Fast.tw15908688649414677666 : True := trivial
theorem PySem.W.Fast.tw9381253533792036069 : True := trivial
theorem PySem.W.Fast.tw11946300662252550113 : True := trivial
theorem PySem.W.Fast.tw16779338912694830768 : True := trivial
theorem PySem.W.Fast.tw1592384138107144771 : True := trivial
theorem PySem.W.Fast.tw8053086850363031618 : True := trivial
theorem PySem.W.Fast.tw6515581657434080350 : True := trivial
theorem PySem.W.Fast.tw12121849204528329927 : True := trivial
theorem PySem.W.Fast.tw14922182666153375408 : True := trivial
theorem PySem.W.Fast.tw12852997860560538155 : True := trivial
theorem PySem.W.Fast.tw11917508708178881514 : True := trivial
theorem PySem.W.Fast.tw2222292023257161092 : True := trivial
theorem PySem.W.Fast.tw2819341752240594991 : True := trivial
theorem PySem.W.Fast.tw14718108898722188078 : True := trivial
theorem PySem.W.Fast.tw6849242139670710018 : True := trivial
theorem PySem.W.Fast.tw1957244687359369827 : True := trivial
theorem PySem.W.Fast.tw10090099960869251913 : True := trivial
theorem PySem.W.Fast.tw8967497651458969574 : True := trivial
theorem PySem.W.Fast.tw2044383184533119284 : True := trivial
theorem PySem.W.Fast.tw9614564242185159884 : True := trivial
theorem PySem.W.Fast.tw951661966263160980 : True := trivial
theorem PySem.W.Fast.tw12648130108578362676 : True := trivial
theorem PySem.W.Fast.tw234489972167885719 : True := trivial
theorem PySem.W.Fast.tw17563175734092808181 : True := trivial
theorem PySem.W.Fast.tw17942240361681821211 : True := trivial
theorem PySem.W.Fast.tw13732829526489362204 : True := trivial
theorem PySem.W.Fast.tw11319346525705854470 : True := trivial
theorem PySem.W.Fast.tw10613116997129241549 : True := trivial
theorem PySem.W.Fast.tw10056457542494972655 : True := trivial
theorem PySem.W.Fast.tw11458827830103190823 : True := trivial
theorem PySem.W.Fast.tw1048839637801297990 : True := trivial
theorem PySem.W.Fast.tw7573898882398660253 : True := trivial
theorem PySem.W.Fast.tw2587080467361862357 : True := trivial
theorem PySem.W.Fast.tw12262939850294523941 : True := trivial
theorem PySem.W.Fast.tw9981433515897298642 : True := trivial
theorem PySem.W.Fast.tw16671377307957861871 : True := trivial
theorem PySem.W.Fast.tw12714303979281209639 : True := trivial
theorem PySem.W.Fast.tw14565946903862109045 : True := trivial
theorem PySem.W.Fast.tw13356404766944660105 : True := trivial
theorem PySem.W.Fast.tw12734542015544428035 : True := trivial
theorem PySem.W.Fast.tw678415425936713716 : True := trivial
theorem PySem.W.Fast.tw4887517569948893523 : True := trivial
theorem PySem.W.Fast.tw3263540073021245416 : True := trivial
theorem PySem.W.Fast.tw446924295846277992 : True := trivial
theorem PySem.W.Fast.tw8930328526489515284 : True := trivial
theorem PySem.W.Fast.tw10039545223587744851 : True := trivial
theorem PySem.W.Fast.tw17567520703225376573 : True := trivial
theorem PySem.W.Fast.tw14287461589847730169 : True := trivial
theorem PySem.W.Fast.tw16700919421076837175 : True := trivial
theorem PySem.W.Fast.tw6512417006322235915 : True := trivial
theorem PySem.W.Fast.tw8589743911700034380 : True := trivial
theorem PySem.W.Fast.tw4382848710848708886 : True := trivial
theorem PySem.W.Fast.tw4768172809443946230 : True := trivial
theorem PySem.W.Fast.tw4874806114334142848 : True := trivial
theorem PySem.W.Fast.tw823530087446041118 : True := trivial
theorem PySem.W.Fast.tw7780930211184938170 : True := trivial
theorem PySem.W.Fast.tw10304742396067530833 : True := trivial
theorem PySem.W.Fast.tw8918930212719165118 : True := trivial
theorem PySem.W.Fast.tw6359039859520621719 : True := trivial
theorem PySem.W.Fast.tw16597291059090455055 : True := trivial
theorem PySem.W.Fast.tw10331714994956444747 : True := trivial
theorem PySem.W.Fast.tw14536710557947490366 : True := trivial
theorem PySem.W.Fast.tw8867287156459765367 : True := trivial
theorem PySem.W.Fast.tw8671052034187892791 : True := trivial
theorem PySem.W.Fast.tw2940977199658066843 : True := trivial
theorem PySem.W.Fast.tw6724560331752536351 : True := trivial
theorem PySem.W.Fast.tw9997822744754210729 : True := trivial
theorem PySem.W.Fast.tw2897954694933825031 : True := trivial
theorem PySem.W.Fast.tw2927392743978159653 : True := trivial
theorem PySem.W.Fast.tw6753442831839233066 : True := trivial
theorem PySem.W.Fast.tw967809957921072584 : True := trivial
theorem PySem.W.Fast.tw10903377508848385628 : True := trivial
theorem PySem.W.Fast.tw11314644771072164567 : True := trivial
theorem PySem.W.Fast.tw16664096851360218707 : True := trivial
theorem PySem.W.Fast.tw4106276625333206443 : True := trivial
theorem PySem.W.Fast.tw3631200165241467098 : True := trivial
theorem PySem.W.Fast.tw16949049944503101865 : True := trivial
theorem PySem.W.Fast.tw1847328112728087063 : True := trivial
theorem PySem.W.Fast.tw15006735443552691887 : True := trivial
theorem PySem.W.Fast.tw8280818302306628918 : True := trivial
theorem PySem.W.Fast.tw9672844938239743725 : True := trivial
theorem PySem.W.Fast.tw2714606285764351037 : True := trivial
theorem PySem.W.Fast.tw5327227061303866150 : True := trivial
theorem PySem.W.Fast.tw7870729903687535935 : True := trivial
theorem PySem.W.Fast.tw11724629386959104893 : True := trivial
theorem PySem.W.Fast.tw6167049475563264486 : True := trivial
theorem PySem.W.Fast.tw5609590842039230705 : True := trivial
theorem PySem.W.Fast.tw15798454199486044197 : True := trivial
theorem PySem.W.Fast.tw14718608050174110370 : True := trivial
theorem PySem.W.Fast.tw11403658618418217596 : True := trivial
theorem PySem.W.Fast.tw3567213770341003726 : True := trivial
theorem PySem.W.Fast.tw13738895774815218550 : True := trivial
theorem PySem.W.Fast.tw8816128325115370339 : True := trivial
theorem PySem.W.Fast.tw16856186916550763937 : True := trivial
theorem PySem.W.Fast.tw18059761702493990867 : True := trivial
theorem PySem.W.Fast.tw12793261887912548936 : True := trivial
theorem PySem.W.Fast.tw13555958260153957784 : True := trivial
theorem PySem.W.Fast.tw1583403460468785006 : True := trivial
theorem PySem.W.Fast.tw14855719325041744472 : True := trivial
theorem PySem.W.Fast.tw3395900724748437697 : True := trivial
theorem PySem.W.Fast.tw5309032117781114205 : True := trivial
theorem PySem.W.Fast.tw1122481453907306219 : True := trivial
theorem PySem.W.Fast.tw2581170585691474176 : True := trivial
theorem PySem.W.Fast.tw14561444930486716344 : True := trivial
theorem PySem.W.Fast.tw10523943222822821369 : True := trivial
theorem PySem.W.Fast.tw7368276120739134054 : True := trivial
theorem PySem.W.Fast.tw9303098628990647786 : True := trivial
theorem PySem.W.Fast.tw13399369861597558940 : True := trivial
theorem PySem.W.Fast.tw16306936466778473224 : True := trivial
theorem PySem.W.Fast.tw2723273249862099943 : True := trivial
theorem PySem.W.Fast.tw13050759204326919007 : True := trivial
theorem PySem.W.Fast.tw11154496537166115466 : True := trivial
theorem PySem.W.Fast.tw12842074441036386063 : True := trivial
theorem PySem.W.Fast.tw6595901828404000973 : True := trivial
theorem PySem.W.Fast.tw7123250450474448248 : True := trivial
theorem PySem.W.Fast.tw12709601632832131188 : True := trivial
theorem PySem.W.Fast.tw16729311884925621781 : True := trivial
theorem PySem.W.Fast.tw12365870422859021005 : True := trivial
theorem PySem.W.Fast.tw15153968606737309824 : True := trivial
theorem PySem.W.Fast.tw9122600625768511441 : True := trivial
theorem PySem.W.Fast.tw6041240764139372214 : True := trivial
theorem PySem.W.Fast.tw1371827677232765292 : True := trivial
theorem PySem.W.Fast.tw1521139697276505365 : True := trivial
theorem PySem.W.Fast.tw175941260463333731 : True := trivial
theorem PySem.W.Fast.tw1364458674566040488 : True := trivial
theorem PySem.W.Fast.tw13500734420377373276 : True := trivial
theorem PySem.W.Fast.tw5679966642201427195 : True := trivial
theorem PySem.W.Fast.tw9583885357338794477 : True := trivial
theorem PySem.W.Fast.tw4949521742298378510 : True := trivial
theorem PySem.W.Fast.tw14534607392673560366 : True := trivial
theorem PySem.W.Fast.tw9118491077869940408 : True := trivial
theorem PySem.W.Fast.tw2333912628282634323 : True := trivial
theorem PySem.W.Fast.tw602833033868544998 : True := trivial
theorem PySem.W.Fast.tw13476928481457967970 : True := trivial
theorem PySem.W.Fast.tw11611205156820967816 : True := trivial
theorem PySem.W.Fast.tw17558596006383850534 : True := trivial
theorem PySem.W.Fast.tw2308006529686454397 : True := trivial
theorem PySem.W.Fast.tw4021574019825274751 : True := trivial
theorem PySem.W.Fast.tw3255395741255445919 : True := trivial
theorem PySem.W.Fast.tw14021966738919114288 : True := trivial
theorem PySem.W.Fast.tw9487498499451630877 : True := trivial
theorem PySem.W.Fast.tw4808637881152003593 : True := trivial
theorem PySem.W.Fast.tw12379718261502372168 : True := trivial
theorem PySem.W.Fast.tw4727555857229182558 : True := trivial
theorem PySem.W.Fast.tw9985184259302239038 : True := trivial
theorem PySem.W.Fast.tw3862150633453851468 : True := trivial
theorem PySem.W.Fast.tw15684412220429781454 : True := trivial
theorem PySem.W.Fast.tw16705979235229964011 : True := trivial
theorem PySem.W.Fast.tw12062968874117683292 : True := trivial
theorem PySem.W.Fast.tw4079529976107363857 : True := trivial
theorem PySem.W.Fast.tw10288272905207100413 : True := trivial
theorem PySem.W.Fast.tw12848067501992073081 : True := trivial
theorem PySem.W.Fast.tw7985549000524426131 : True := trivial
theorem PySem.W.Fast.tw11188326130162494504 : True := trivial
theorem PySem.W.Fast.tw11260595554601623 : True := trivial
theorem PySem.W.Fast.tw1761933977129464511 : True := trivial
theorem PySem.W.Fast.tw10134374002411775042 : True := trivial
theorem PySem.W.Fast.tw10970036376445945980 : True := trivial
theorem PySem.W.Fast.tw6094216283617915716 : True := trivial
theorem PySem.W.Fast.tw6788054585011116419 : True := trivial
theorem PySem.W.Fast.tw4837191837126472129 : True := trivial
theorem PySem.W.Fast.tw16963563474172438352 : True := trivial
theorem PySem.W.Fast.tw17386717452152378459 : True := trivial
theorem PySem.W.Fast.tw2601083431623379163 : True := trivial
theorem PySem.W.Fast.tw9940758469242076076 : True := trivial
theorem PySem.W.Fast.tw12170439342359604171 : True := trivial
theorem PySem.W.Fast.tw13560612427837705969 : True := trivial
theorem PySem.W.Fast.tw17331745395606571096 : True := trivial
theorem PySem.W.Fast.tw8298328988831859079 : True := trivial
theorem PySem.W.Fast.tw258685815560310940 : True := trivial
theorem PySem.W.Fast.tw5150820620633534436 : True := trivial
theorem PySem.W.Fast.tw3064588955960687684 : True := trivial
theorem PySem.W.Fast.tw14014509208165800400 : True := trivial
theorem PySem.W.Fast.tw15423527039383535967 : True := trivial
theorem PySem.W.Fast.tw13135462852797204329 : True := trivial
theorem PySem.W.Fast.tw9389432450878333749 : True := trivial
theorem PySem.W.Fast.tw10384193445339234904 : True := trivial
theorem PySem.W.Fast.tw18098560732561992804 : True := trivial
theorem PySem.W.Fast.tw18153507865017222512 : True := trivial
theorem PySem.W.Fast.tw12396801733038595856 : True := trivial
theorem PySem.W.Fast.tw16295866218357602777 : True := trivial
theorem PySem.W.Fast.tw2851761571801677077 : True := trivial
theorem PySem.W.Fast.tw2366251874888631497 : True := trivial
theorem PySem.W.Fast.tw12012760463905218331 : True := trivial
theorem PySem.W.Fast.tw14249315294881594301 : True := trivial
theorem PySem.W.Fast.tw13813821616538765248 : True := trivial
theorem PySem.W.Fast.tw6009515792146906599 : True := trivial
theorem PySem.W.Fast.tw15409270469928989618 : True := trivial
theorem PySem.W.Fast.tw2994592384144730727 : True := trivial
theorem PySem.W.Fast.tw13309201105719552334 : True := trivial
theorem PySem.W.Fast.tw8657722694278066857 : True := trivial
theorem PySem.W.Fast.tw4510216331270253485 : True := trivial
theorem PySem.W.Fast.tw6363550991450936771 : True := trivial
theorem PySem.W.Fast.tw2611806696327327656 : True := trivial
theorem PySem.W.Fast.tw17656525878848832093 : True := trivial
theorem PySem.W.Fast.tw17672746446823389792 : True := trivial
theorem PySem.W.Fast.tw16581785083131320539 : True := trivial
theorem PySem.W.Fast.tw11703987290598918512 : True := trivial
theorem PySem.W.Fast.tw8247737499978246385 : True := trivial
theorem PySem.W.Fast.tw5357210281634071184 : True := trivial
theorem PySem.W.Fast.tw4047818042225364715 : True := trivial
theorem PySem.W.Fast.tw17864661223065913050 : True := trivial
theorem PySem.W.Fast.tw4695252323478912085 : True := trivial
theorem PySem.W.Fast.tw5738604071673289784 : True := trivial
theorem PySem.W.Fast.tw5054762909586219695 : True := trivial
theorem PySem.W.Fast.tw17783373264222480985 : True := trivial
theorem PySem.W.Fast.tw14286562905290382549 : True := trivial
theorem PySem.W.Fast.tw5019563734435449161 : True := trivial
theorem PySem.W.Fast.tw3413449014268390953 : True := trivial
theorem PySem.W.Fast.tw2573334702459078240 : True := trivial
theorem PySem.W.Fast.tw14084199484847745378 : True := trivial
theorem PySem.W.Fast.tw15923476402606291503 : True := trivial
theorem PySem.W.Fast.tw10253804683204607168 : True := trivial
theorem PySem.W.Fast.tw9007001927746155883 : True := trivial
theorem PySem.W.Fast.tw4441952001183342442 : True := trivial
theorem PySem.W.Fast.tw15352339890576137287 : True := trivial
theorem PySem.W.Fast.tw2173820036857599769 : True := trivial
theorem PySem.W.Fast.tw1477585148551625809 : True := trivial
theorem PySem.W.Fast.tw3224385254259589831 : True := trivial
theorem PySem.W.Fast.tw13759176887892121769 : True := trivial
theorem PySem.W.Fast.tw10155970932233251880 : True := trivial
theorem PySem.W.Fast.tw17081044910984519736 : True := trivial
theorem PySem.W.Fast.tw8925614888196732421 : True := trivial
theorem PySem.W.Fast.tw9626146065790835178 : True := trivial
theorem PySem.W.Fast.tw11099759703898347379 : True := trivial
theorem PySem.W.Fast.tw11182665038026026256 : True := trivial
theorem PySem.W.Fast.tw17307923942779147229 : True := trivial
theorem PySem.W.Fast.tw4063628887601999951 : True := trivial
theorem PySem.W.Fast.tw15602390896706836616 : True := trivial
theorem PySem.W.Fast.tw5775088844494914794 : True := trivial
theorem PySem.W.Fast.tw15546004918833645870 : True := trivial
theorem PySem.W.Fast.tw16468460258527967766 : True := trivial
theorem PySem.W.Fast.tw1287539256167883987 : True := trivial
theorem PySem.W.Fast.tw17544007190320614083 : True := trivial
theorem PySem.W.Fast.tw5473888380416447884 : True := trivial
theorem PySem.W.Fast.tw5484152937167518346 : True := trivial
theorem PySem.W.Fast.tw13025401463393496728 : True := trivial
theorem PySem.W.Fast.tw16230465842077127218 : True := trivial
theorem PySem.W.Fast.tw5780126483895026594 : True := trivial
theorem PySem.W.Fast.tw1986234559584541371 : True := trivial
theorem PySem.W.Fast.tw596765494609563390 : True := trivial
theorem PySem.W.Fast.tw6188001228896384145 : True := trivial
theorem PySem.W.Fast.tw18182953009155640271 : True := trivial
theorem PySem.W.Fast.tw1717579033757931542 : True := trivial
theorem PySem.W.Fast.tw13620701859932121396 : True := trivial
theorem PySem.W.Fast.tw6816789705291478709 : True := trivial
theorem PySem.W.Fast.tw11071128089234203999 : True := trivial
theorem PySem.W.Fast.tw16427541524856889016 : True := trivial
theorem PySem.W.Fast.tw17217180241238734158 : True := trivial
theorem PySem.W.Fast.tw13483080995501483701 : True := trivial
theorem PySem.W.Fast.tw15763414705025546274 : True := trivial
theorem PySem.W.Fast.tw12575460327331701769 : True := trivial
theorem PySem.W.Fast.tw11639333087377587053 : True := trivial
theorem PySem.W.Fast.tw14037383048366329331 : True := trivial
theorem PySem.W.Fast.tw5400242341138418382 : True := trivial
theorem PySem.W.Fast.tw1045513062156822937 : True := trivial
theorem PySem.W.Fast.tw479600227985912640 : True := trivial
theorem PySem.W.Fast.tw2745885203286386352 : True := trivial
theorem PySem.W.Fast.tw1425572729565426314 : True := trivial
theorem PySem.W.Fast.tw11908482758465379424 : True := trivial
theorem PySem.W.Fast.tw14514927716149435066 : True := trivial
theorem PySem.W.Fast.tw6953076638529566858 : True := trivial
theorem PySem.W.Fast.tw13820367577708084469 : True := trivial
theorem PySem.W.Fast.tw13580048023214460056 : True := trivial
theorem PySem.W.Fast.tw12759879977692483152 : True := trivial
theorem PySem.W.Fast.tw8950711171344807718 : True := trivial
theorem PySem.W.Fast.tw16956642206990196399 : True := trivial
theorem PySem.W.Fast.tw6309755817268721667 : True := trivial
theorem PySem.W.Fast.tw4063567871923786578 : True := trivial
theorem PySem.W.Fast.tw11851625401362648483 : True := trivial
theorem PySem.W.Fast.tw6202062086533429635 : True := trivial
theorem PySem.W.Fast.tw9400979599057980553 : True := trivial
theorem PySem.W.Fast.tw17788121875379714499 : True := trivial
theorem PySem.W.Fast.tw5002200846884573581 : True := trivial
theorem PySem.W.Fast.tw273666961106136285 : True := trivial
theorem PySem.W.Fast.tw16112862699150572844 : True := trivial
theorem PySem.W.Fast.tw6840951046743514030 : True := trivial
theorem PySem.W.Fast.tw291805134814462001 : True := trivial
theorem PySem.W.Fast.tw16647427123431246239 : True := trivial
theorem PySem.W.Fast.tw7637623886172595802 : True := trivial
theorem PySem.W.Fast.tw16924316757515718304 : True := trivial
theorem PySem.W.Fast.tw13904662519604142310 : True := trivial
theorem PySem.W.Fast.tw16552102782266005281 : True := trivial
theorem PySem.W.Fast.tw4551018992464437138 : True := trivial
theorem PySem.W.Fast.tw13007106884525403924 : True := trivial
theorem PySem.W.Fast.tw2616606138141839605 : True := trivial
theorem PySem.W.Fast.tw6456365584367745925 : True := trivial
theorem PySem.W.Fast.tw8715398262864946153 : True := trivial
theorem PySem.W.Fast.tw13992763534393602232 : True := trivial
theorem PySem.W.Fast.tw9941755470129933345 : True := trivial
theorem PySem.W.Fast.tw4915100722485447340 : True := trivial
theorem PySem.W.Fast.tw15417320533560051180 : True := trivial
theorem PySem.W.Fast.tw2591120940269584414 : True := trivial
theorem PySem.W.Fast.tw2593596668793973293 : True := trivial
theorem PySem.W.Fast.tw9825490175456394067 : True := trivial
theorem PySem.W.Fast.tw18431597700759621731 : True := trivial
theorem PySem.W.Fast.tw10470031034530916276 : True := trivial
theorem PySem.W.Fast.tw1574831899342319258 : True := trivial
theorem PySem.W.Fast.tw16542184929321011612 : True := trivial
theorem PySem.W.Fast.tw2961388255195779827 : True := trivial
theorem PySem.W.Fast.tw12971294895997245566 : True := trivial
theorem PySem.W.Fast.tw10799087223818484799 : True := trivial
theorem PySem.W.Fast.tw17052997241260948732 : True := trivial
theorem PySem.W.Fast.tw18299219027035344008 : True := trivial
theorem PySem.W.Fast.tw4124977897338841274 : True := trivial
theorem PySem.W.Fast.tw8640936067153140741 : True := trivial
theorem PySem.W.Fast.tw3354761062189588964 : True := trivial
theorem PySem.W.Fast.tw9038806617923509802 : True := trivial
theorem PySem.W.Fast.tw12536053801623046377 : True := trivial
theorem PySem.W.Fast.tw10870054956802662000 : True := trivial
theorem PySem.W.Fast.tw15410192630801909596 : True := trivial
theorem PySem.W.Fast.tw6066148409205539304 : True := trivial
theorem PySem.W.Fast.tw12515744062827860801 : True := trivial
theorem PySem.W.Fast.tw7647057160072784681 : True := trivial
theorem PySem.W.Fast.tw8719788367150212058 : True := trivial
theorem PySem.W.Fast.tw11019095781957371423 : True := trivial
theorem PySem.W.Fast.tw16352726064626032305 : True := trivial
theorem PySem.W.Fast.tw6570694311457779568 : True := trivial
theorem PySem.W.Fast.tw14692411370445077342 : True := trivial
theorem PySem.W.Fast.tw3546554124352726936 : True := trivial
theorem PySem.W.Fast.tw18273135045321336948 : True := trivial
theorem PySem.W.Fast.tw9038705240093553141 : True := trivial
theorem PySem.W.Fast.tw6391376580755204332 : True := trivial
theorem PySem.W.Fast.tw15258326042575234989 : True := trivial
theorem PySem.W.Fast.tw9497674740724700691 : True := trivial
theorem PySem.W.Fast.tw14151209851528454914 : True := trivial
theorem PySem.W.Fast.tw14554674057851538297 : True := trivial
theorem PySem.W.Fast.tw7676261611309396864 : True := trivial
theorem PySem.W.Fast.tw12488011105974779843 : True := trivial
theorem PySem.W.Fast.tw6948908965602482906 : True := trivial
theorem PySem.W.Fast.tw6504777830646557757 : True := trivial
theorem PySem.W.Fast.tw1335908208417533066 : True := trivial
theorem PySem.W.Fast.tw933805758263933589 : True := trivial
theorem PySem.W.Fast.tw5529010245937308621 : True := trivial
theorem PySem.W.Fast.tw2143195491770838797 : True := trivial
theorem PySem.W.Fast.tw3688970605784638207 : True := trivial
theorem PySem.W.Fast.tw2222445933040683377 : True := trivial
theorem PySem.W.Fast.tw14127567048128760362 : True := trivial
theorem PySem.W.Fast.tw14906921446577063401 : True := trivial
theorem PySem.W.Fast.tw3014771745205323754 : True := trivial
theorem PySem.W.Fast.tw3492368254608851041 : True := trivial
theorem PySem.W.Fast.tw16348588173181360855 : True := trivial
theorem PySem.W.Fast.tw4818337650068787418 : True := trivial
theorem PySem.W.Fast.tw8258512265089217016 : True := trivial
theorem PySem.W.Fast.tw7832680574691651938 : True := trivial
theorem PySem.W.Fast.tw11165223924293386816 : True := trivial
theorem PySem.W.Fast.tw7587356529452634019 : True := trivial
theorem PySem.W.Fast.tw3408002203821035976 : True := trivial
theorem PySem.W.Fast.tw13748387672885511342 : True := trivial
theorem PySem.W.Fast.tw5300646460320381785 : True := trivial
theorem PySem.W.Fast.tw9342572696195050327 : True := trivial
theorem PySem.W.Fast.tw4811396988816595192 : True := trivial
theorem PySem.W.Fast.tw9476199938092257431 : True := trivial
theorem PySem.W.Fast.tw9701076211607124162 : True := trivial
theorem PySem.W.Fast.tw5772827319852510289 : True := trivial
theorem PySem.W.Fast.tw8759553701796300027 : True := trivial
theorem PySem.W.Fast.tw3923337300980540618 : True := trivial
theorem PySem.W.Fast.tw6880952060003270237 : True := trivial
theorem PySem.W.Fast.tw2138900306752501371 : True := trivial
theorem PySem.W.Fast.tw773747913878757304 : True := trivial
theorem PySem.W.Fast.tw2511010488398815800 : True := trivial
theorem PySem.W.Fast.tw12552036317934769046 : True := trivial
theorem PySem.W.Fast.tw3020972447221016829 : True := trivial
theorem PySem.W.Fast.tw4570479569197361633 : True := trivial
theorem PySem.W.Fast.tw7857516026544993665 : True := trivial
theorem PySem.W.Fast.tw2218208927629585888 : True := trivial
theorem PySem.W.Fast.tw2424023884442291913 : True := trivial
theorem PySem.W.Fast.tw2344555556528878673 : True := trivial
theorem PySem.W.Fast.tw15767223418505488272 : True := trivial
theorem PySem.W.Fast.tw16915311299330988068 : True := trivial
theorem PySem.W.Fast.tw17464260187026357767 : True := trivial
theorem PySem.W.Fast.tw16191718312258338195 : True := trivial
theorem PySem.W.Fast.tw5693195433855742898 : True := trivial
theorem PySem.W.Fast.tw16848900508456909416 : True := trivial
theorem PySem.W.Fast.tw15075190653211508371 : True := trivial
theorem PySem.W.Fast.tw11728679744878604180 : True := trivial
theorem PySem.W.Fast.tw2016274235717638567 : True := trivial
theorem PySem.W.Fast.tw124125447465002175 : True := trivial
theorem PySem.W.Fast.tw312306623546327097 : True := trivial
theorem PySem.W.Fast.tw6794315160074786342 : True := trivial
theorem PySem.W.Fast.tw5469598714934567552 : True := trivial
theorem PySem.W.Fast.tw11285969610330447791 : True := trivial
theorem PySem.W.Fast.tw9436859064412844019 : True := trivial
theorem PySem.W.Fast.tw14969427636748198586 : True := trivial
theorem PySem.W.Fast.tw14529380339853935068 : True := trivial
theorem PySem.W.Fast.tw4661404893117005209 : True := trivial
theorem PySem.W.Fast.tw846905678096250959 : True := trivial
theorem PySem.W.Fast.tw3830898156865261419 : True := trivial
theorem PySem.W.Fast.tw2610110704393167146 : True := trivial
theorem PySem.W.Fast.tw11682259688620206178 : True := trivial
theorem PySem.W.Fast.tw9160868878653008923 : True := trivial
theorem PySem.W.Fast.tw5078223598234287141 : True := trivial
theorem PySem.W.Fast.tw6637131364774054594 : True := trivial
theorem PySem.W.Fast.tw3924269661084815468 : True := trivial
theorem PySem.W.Fast.tw18330636818397647047 : True := trivial
theorem PySem.W.Fast.tw8831681885556307350 : True := trivial
theorem PySem.W.Fast.tw17308830675773655463 : True := trivial
theorem PySem.W.Fast.tw5782457379823804602 : True := trivial
theorem PySem.W.Fast.tw4661722111083323387 : True := trivial
theorem PySem.W.Fast.tw17251514690781502227 : True := trivial
theorem PySem.W.Fast.tw1810120957454423974 : True := trivial
theorem PySem.W.Fast.tw17608597292297052543 : True := trivial
theorem PySem.W.Fast.tw5004652348836382504 : True := trivial
theorem PySem.W.Fast.tw5047043023338854795 : True := trivial
theorem PySem.W.Fast.tw7637388545567825359 : True := trivial
theorem PySem.W.Fast.tw1679237877326752646 : True := trivial
theorem PySem.W.Fast.tw16296538278502344672 : True := trivial
theorem PySem.W.Fast.tw10069603854654560560 : True := trivial
theorem PySem.W.Fast.tw4628397502741245294 : True := trivial
theorem PySem.W.Fast.tw3767452776545618907 : True := trivial
theorem PySem.W.Fast.tw2135221552488050463 : True := trivial
theorem PySem.W.Fast.tw12825662978828105892 : True := trivial
theorem PySem.W.Fast.tw4278726441382314768 : True := trivial
theorem PySem.W.Fast.tw12996914787183304770 : True := trivial
theorem PySem.W.Fast.tw7603614543140491161 : True := trivial
theorem PySem.W.Fast.tw3637617041503962741 : True := trivial
theorem PySem.W.Fast.tw9175686291005235357 : True := trivial
theorem PySem.W.Fast.tw3502118827394202183 : True := trivial
theorem PySem.W.Fast.tw5289854972795436774 : True := trivial
theorem PySem.W.Fast.tw9613381893983255006 : True := trivial
theorem PySem.W.Fast.tw16070852486136490176 : True := trivial
theorem PySem.W.Fast.tw17194532264959351454 : True := trivial
theorem PySem.W.Fast.tw14539435879585025114 : True := trivial
theorem PySem.W.Fast.tw11701492106033760692 : True := trivial
theorem PySem.W.Fast.tw9819931747144666693 : True := trivial
theorem PySem.W.Fast.tw10126638485094737330 : True := trivial
theorem PySem.W.Fast.tw7255733438165535016 : True := trivial
theorem PySem.W.Fast.tw274523415477942371 : True := trivial
theorem PySem.W.Fast.tw17938524805778122800 : True := trivial
theorem PySem.W.Fast.tw6364082642929224101 : True := trivial
theorem PySem.W.Fast.tw14240701670386518599 : True := trivial
theorem PySem.W.Fast.tw352794404767914785 : True := trivial
theorem PySem.W.Fast.tw299232036421464893 : True := trivial
theorem PySem.W.Fast.tw10346039631275722876 : True := trivial
theorem PySem.W.Fast.tw3177356029081200853 : True := trivial
theorem PySem.W.Fast.tw10792744426183213259 : True := trivial
theorem PySem.W.Fast.tw7233267596493345462 : True := trivial
theorem PySem.W.Fast.tw1620646877441635735 : True := trivial
theorem PySem.W.Fast.tw1913208558718638507 : True := trivial
theorem PySem.W.Fast.tw1553710532020810004 : True := trivial
theorem PySem.W.Fast.tw16279655084387091338 : True := trivial
theorem PySem.W.Fast.tw32804225180842217 : True := trivial
theorem PySem.W.Fast.tw6188483789637939177 : True := trivial
theorem PySem.W.Fast.tw11463699608467533639 : True := trivial
theorem PySem.W.Fast.tw14259847901691483742 : True := trivial
theorem PySem.W.Fast.tw14155856105584685943 : True := trivial
theorem PySem.W.Fast.tw11307021744904053515 : True := trivial
theorem PySem.W.Fast.tw14628298504812011410 : True := trivial
theorem PySem.W.Fast.tw13419948799242556360 : True := trivial
theorem PySem.W.Fast.tw11819160813898650943 : True := trivial
theorem PySem.W.Fast.tw2495034593059308791 : True := trivial
theorem PySem.W.Fast.tw16268375828588519653 : True := trivial
theorem PySem.W.Fast.tw5532877136318916325 : True := trivial
theorem PySem.W.Fast.tw3274211886484229831 : True := trivial
theorem PySem.W.Fast.tw13156546255330658741 : True := trivial
theorem PySem.W.Fast.tw5797018340288644324 : True := trivial
theorem PySem.W.Fast.tw14296928089204368147 : True := trivial
theorem PySem.W.Fast.tw2864069841307045440 : True := trivial
theorem PySem.W.Fast.tw1117329809600162092 : True := trivial
theorem PySem.W.Fast.tw8673415106343450464 : True := trivial
theorem PySem.W.Fast.tw2790717806921404611 : True := trivial
theorem PySem.W.Fast.tw8977905227387928796 : True := trivial
theorem PySem.W.Fast.tw11875728787307716703 : True := trivial
theorem PySem.W.Fast.tw14962982426610331444 : True := trivial
theorem PySem.W.Fast.tw17129364709249562538 : True := trivial
theorem PySem.W.Fast.tw10568284190765838515 : True := trivial
theorem PySem.W.Fast.tw18395061164156572329 : True := trivial
theorem PySem.W.Fast.tw9225764726385159962 : True := trivial
theorem PySem.W.Fast.tw4968618891003554423 : True := trivial
theorem PySem.W.Fast.tw2462883517145114723 : True := trivial
theorem PySem.W.Fast.tw5231367927930248999 : True := trivial
theorem PySem.W.Fast.tw15156479329447374060 : True := trivial
theorem PySem.W.Fast.tw15921984719868942790 : True := trivial
theorem PySem.W.Fast.tw8037124113125618339 : True := trivial
theorem PySem.W.Fast.tw3158861493028003778 : True := trivial
theorem PySem.W.Fast.tw5720143302858431480 : True := trivial
theorem PySem.W.Fast.tw15496313912933882542 : True := trivial
theorem PySem.W.Fast.tw15828965902019746791 : True := trivial
theorem PySem.W.Fast.tw10468939187070746831 : True := trivial
theorem PySem.W.Fast.tw14315630009087756129 : True := trivial
theorem PySem.W.Fast.tw11912546573146855354 : True := trivial
theorem PySem.W.Fast.tw3031445207388066003 : True := trivial
theorem PySem.W.Fast.tw4422713649949367652 : True := trivial
theorem PySem.W.Fast.tw7311606820265050055 : True := trivial
theorem PySem.W.Fast.tw16971676000193395972 : True := trivial
theorem PySem.W.Fast.tw12419489063099793371 : True := trivial
theorem PySem.W.Fast.tw2986887628178691858 : True := trivial
theorem PySem.W.Fast.tw233303749564600596 : True := trivial
theorem PySem.W.Fast.tw10170709028565888409 : True := trivial
theorem PySem.W.Fast.tw11569162086333012204 : True := trivial
theorem PySem.W.Fast.tw8727908934899742089 : True := trivial
theorem PySem.W.Fast.tw16269125487566651469 : True := trivial
theorem PySem.W.Fast.tw13736713454681827777 : True := trivial
theorem PySem.W.Fast.tw813411215659534264 : True := trivial
theorem PySem.W.Fast.tw11447653794075105919 : True := trivial
theorem PySem.W.Fast.tw2521807895929537325 : True := trivial
theorem PySem.W.Fast.tw8037315310968085812 : True := trivial
theorem PySem.W.Fast.tw6380478600373894705 : True := trivial
theorem PySem.W.Fast.tw2440041710569367503 : True := trivial
theorem PySem.W.Fast.tw5208071541744221124 : True := trivial
theorem PySem.W.Fast.tw18073249613171638398 : True := trivial
theorem PySem.W.Fast.tw4284664077239272233 : True := trivial
theorem PySem.W.Fast.tw13951504052070923612 : True := trivial
theorem PySem.W.Fast.tw6969972620124334802 : True := trivial
theorem PySem.W.Fast.tw12543151548231813467 : True := trivial
theorem PySem.W.Fast.tw2412387076043402399 : True := trivial
theorem PySem.W.Fast.tw12151827591119714230 : True := trivial
theorem PySem.W.Fast.tw12324299103861671279 : True := trivial
theorem PySem.W.Fast.tw6114224179251486573 : True := trivial
theorem PySem.W.Fast.tw12217893965172630704 : True := trivial
theorem PySem.W.Fast.tw340726372666779019 : True := trivial
theorem PySem.W.Fast.tw6096203238759219846 : True := trivial
theorem PySem.W.Fast.tw6806983641346990800 : True := trivial
theorem PySem.W.Fast.tw18110855960218672075 : True := trivial
theorem PySem.W.Fast.tw18185706050551370513 : True := trivial
theorem PySem.W.Fast.tw115166733805083265 : True := trivial
theorem PySem.W.Fast.tw8181038782375307351 : True := trivial
theorem PySem.W.Fast.tw15290140003845910596 : True := trivial
theorem PySem.W.Fast.tw5208914730101472056 : True := trivial
theorem PySem.W.Fast.tw10825447992995514693 : True := trivial
theorem PySem.W.Fast.tw10289820802489904276 : True := trivial
theorem PySem.W.Fast.tw18306201570116534004 : True := trivial
theorem PySem.W.Fast.tw10545237182470627456 : True := trivial
theorem PySem.W.Fast.tw12553701180503793338 : True := trivial
theorem PySem.W.Fast.tw10601680723431193856 : True := trivial
theorem PySem.W.Fast.tw8317008571523273594 : True := trivial
theorem PySem.W.Fast.tw13835179224233901968 : True := trivial
theorem PySem.W.Fast.tw16576127962685134261 : True := trivial
theorem PySem.W.Fast.tw7690724903123406896 : True := trivial
theorem PySem.W.Fast.tw3290176781499187187 : True := trivial
theorem PySem.W.Fast.tw4969905850793202280 : True := trivial
theorem PySem.W.Fast.tw2438369589403001409 : True := trivial
theorem PySem.W.Fast.tw16445565216061315894 : True := trivial
theorem PySem.W.Fast.tw12056104604666478271 : True := trivial
theorem PySem.W.Fast.tw8900282941240388136 : True := trivial
theorem PySem.W.Fast.tw15260397256729231760 : True := trivial
theorem PySem.W.Fast.tw371486689108856109 : True := trivial
theorem PySem.W.Fast.tw4017914854983439646 : True := trivial
theorem PySem.W.Fast.tw13569502591213125607 : True := trivial
theorem PySem.W.Fast.tw15679541847723782127 : True := trivial
theorem PySem.W.Fast.tw4858057233291226144 : True := trivial
theorem PySem.W.Fast.tw2250593560670323497 : True := trivial
theorem PySem.W.Fast.tw15349836855749667167 : True := trivial
theorem PySem.W.Fast.tw15773520939530896774 : True := trivial
theorem PySem.W.Fast.tw12662638246495449572 : True := trivial
theorem PySem.W.Fast.tw9249690960685884592 : True := trivial
theorem PySem.W.Fast.tw2621997678875687594 : True := trivial
theorem PySem.W.Fast.tw15404378543186883081 : True := trivial
theorem PySem.W.Fast.tw7635346533749409518 : True := trivial
theorem PySem.W.Fast.tw16377710171456485508 : True := trivial
theorem PySem.W.Fast.tw5449314730123668555 : True := trivial
theorem PySem.W.Fast.tw158896027713192918 : True := trivial
theorem PySem.W.Fast.tw6698053834807808852 : True := trivial
theorem PySem.W.Fast.tw9743511823214288337 : True := trivial
theorem PySem.W.Fast.tw6701495724270760511 : True := trivial
theorem PySem.W.Fast.tw12046570349516174201 : True := trivial
theorem PySem.W.Fast.tw16813171040001854276 : True := trivial
theorem PySem.W.Fast.tw14232627853088752247 : True := trivial
theorem PySem.W.Fast.tw2292983299498771859 : True := trivial
theorem PySem.W.Fast.tw7626797356038411115 : True := trivial
theorem PySem.W.Fast.tw2262413131740381527 : True := trivial
theorem PySem.W.Fast.tw17885362832866871930 : True := trivial
theorem PySem.W.Fast.tw873364462462417470 : True := trivial
theorem PySem.W.Fast.tw14061957565129756650 : True := trivial
theorem PySem.W.Fast.tw10690172238530094026 : True := trivial
theorem PySem.W.Fast.tw2745408061857032101 : True := trivial
theorem PySem.W.Fast.tw16288856054972044116 : True := trivial
theorem PySem.W.Fast.tw6424514395864854403 : True := trivial
theorem PySem.W.Fast.tw13346996135195870959 : True := trivial
theorem PySem.W.Fast.tw12686919258936748867 : True := trivial
theorem PySem.W.Fast.tw2348603257039615721 : True := trivial
theorem PySem.W.Fast.tw11544182858016389179 : True := trivial
theorem PySem.W.Fast.tw18208138447068904330 : True := trivial
theorem PySem.W.Fast.tw9719306133504423250 : True := trivial
theorem PySem.W.Fast.tw10151892191771978661 : True := trivial
theorem PySem.W.Fast.tw14476600660994823456 : True := trivial
theorem PySem.W.Fast.tw10350631606225746614 : True := trivial
theorem PySem.W.Fast.tw16081253342652600883 : True := trivial
theorem PySem.W.Fast.tw13213892632378609354 : True := trivial
theorem PySem.W.Fast.tw2128372676904443021 : True := trivial
theorem PySem.W.Fast.tw8334034329632746176 : True := trivial
theorem PySem.W.Fast.tw11174425671181392620 : True := trivial
theorem PySem.W.Fast.tw12230634078715511710 : True := trivial
theorem PySem.W.Fast.tw12360241021415135078 : True := trivial
theorem PySem.W.Fast.tw16225204749494890298 : True := trivial
theorem PySem.W.Fast.tw9387044942548206740 : True := trivial
theorem PySem.W.Fast.tw17699424202713387064 : True := trivial
theorem PySem.W.Fast.tw17589411549649026778 : True := trivial
theorem PySem.W.Fast.tw12482668622636982705 : True := trivial
theorem PySem.W.Fast.tw13285419712575760673 : True := trivial
theorem PySem.W.Fast.tw8875394663020597899 : True := trivial
theorem PySem.W.Fast.tw5084626404549618533 : True := trivial
theorem PySem.W.Fast.tw15566158629678197372 : True := trivial
theorem PySem.W.Fast.tw18438264617004502551 : True := trivial
theorem PySem.W.Fast.tw16180104785176485430 : True := trivial
theorem PySem.W.Fast.tw12015984977336871683 : True := trivial
theorem PySem.W.Fast.tw16942138210832258100 : True := trivial
theorem PySem.W.Fast.tw9534737624172362420 : True := trivial
theorem PySem.W.Fast.tw12984162789159137592 : True := trivial
theorem PySem.W.Fast.tw5799122992720579337 : True := trivial
theorem PySem.W.Fast.tw1550798567557141992 : True := trivial
theorem PySem.W.Fast.tw11832821099070427523 : True := trivial
theorem PySem.W.Fast.tw14064292750708783991 : True := trivial
theorem PySem.W.Fast.tw12002833786310020645 : True := trivial
theorem PySem.W.Fast.tw13542803535094295500 : True := trivial
theorem PySem.W.Fast.tw10384542230122079884 : True := trivial
theorem PySem.W.Fast.tw5427573163172904630 : True := trivial
theorem PySem.W.Fast.tw8181209845865135045 : True := trivial
theorem PySem.W.Fast.tw11876994245650216415 : True := trivial
theorem PySem.W.Fast.tw15795491526015711283 : True := trivial
theorem PySem.W.Fast.tw885759991968568241 : True := trivial
theorem PySem.W.Fast.tw11864789972439936220 : True := trivial
theorem PySem.W.Fast.tw1890668250240991804 : True := trivial
theorem PySem.W.Fast.tw13549996453377878486 : True := trivial
theorem PySem.W.Fast.tw10157888446015791133 : True := trivial
theorem PySem.W.Fast.tw2036277903822154140 : True := trivial
theorem PySem.W.Fast.tw11780456228193864250 : True := trivial
theorem PySem.W.Fast.tw4209249624518886056 : True := trivial
theorem PySem.W.Fast.tw10412643142144481185 : True := trivial
theorem PySem.W.Fast.tw13148485221656614798 : True := trivial
theorem PySem.W.Fast.tw12186056398898609360 : True := trivial
theorem PySem.W.Fast.tw17855238416147511990 : True := trivial
theorem PySem.W.Fast.tw11553409418968814520 : True := trivial
theorem PySem.W.Fast.tw15647024907076527631 : True := trivial
theorem PySem.W.Fast.tw10837414316943464061 : True := trivial
theorem PySem.W.Fast.tw17928811394379628239 : True := trivial
theorem PySem.W.Fast.tw6027038743573641084 : True := trivial
theorem PySem.W.Fast.tw6095988448727831794 : True := trivial
theorem PySem.W.Fast.tw7779269779289655263 : True := trivial
theorem PySem.W.Fast.tw114241562931724029 : True := trivial
theorem PySem.W.Fast.tw4771625099681909544 : True := trivial
theorem PySem.W.Fast.tw4479904588704804352 : True := trivial
theorem PySem.W.Fast.tw5028517114627606169 : True := trivial
theorem PySem.W.Fast.tw1382620534772454687 : True := trivial
theorem PySem.W.Fast.tw3372123937209708440 : True := trivial
theorem PySem.W.Fast.tw14448470113604832680 : True := trivial
theorem PySem.W.Fast.tw4939447707222851719 : True := trivial
theorem PySem.W.Fast.tw6145667091962531397 : True := trivial
theorem PySem.W.Fast.tw12054449871225111799 : True := trivial
theorem PySem.W.Fast.tw11069262309155723327 : True := trivial
theorem PySem.W.Fast.tw3744322532413335709 : True := trivial
theorem PySem.W.Fast.tw1715163787741187716 : True := trivial
theorem PySem.W.Fast.tw17764434784413531032 : True := trivial
theorem PySem.W.Fast.tw15725844753200001055 : True := trivial
theorem PySem.W.Fast.tw5404399270733497364 : True := trivial
theorem PySem.W.Fast.tw18425671344781987964 : True := trivial
theorem PySem.W.Fast.tw1329575938798985691 : True := trivial
theorem PySem.W.Fast.tw4138642582343855861 : True := trivial
theorem PySem.W.Fast.tw13573241716205173829 : True := trivial
theorem PySem.W.Fast.tw10612303252338655157 : True := trivial
theorem PySem.W.Fast.tw14056034771922860727 : True := trivial
theorem PySem.W.Fast.tw3629404726584973568 : True := trivial
theorem PySem.W.Fast.tw6265608662146675669 : True := trivial
theorem PySem.W.Fast.tw2155963804654100235 : True := trivial
theorem PySem.W.Fast.tw2368129605629185047 : True := trivial
theorem PySem.W.Fast.tw1026788809583912476 : True := trivial
theorem PySem.W.Fast.tw5187306843361313477 : True := trivial
theorem PySem.W.Fast.tw16362388763659366275 : True := trivial
theorem PySem.W.Fast.tw12227464503737576990 : True := trivial
theorem PySem.W.Fast.tw1925786922835989756 : True := trivial
theorem PySem.W.Fast.tw17004645019830285661 : True := trivial
theorem PySem.W.Fast.tw14316631787428504756 : True := trivial
theorem PySem.W.Fast.tw14950501843458503527 : True := trivial
theorem PySem.W.Fast.tw17060547838054377348 : True := trivial
theorem PySem.W.Fast.tw14098729183383277271 : True := trivial
theorem PySem.W.Fast.tw4850463383754570832 : True := trivial
theorem PySem.W.Fast.tw1739257014298390717 : True := trivial
theorem PySem.W.Fast.tw4887508316810751230 : True := trivial
theorem PySem.W.Fast.tw8222925093040295084 : True := trivial
theorem PySem.W.Fast.tw14271636447215386836 : True := trivial
theorem PySem.W.Fast.tw12019560071525141449 : True := trivial
theorem PySem.W.Fast.tw11068061229981456549 : True := trivial
theorem PySem.W.Fast.tw861041367569307531 : True := trivial
theorem PySem.W.Fast.tw9974407325671608255 : True := trivial
theorem PySem.W.Fast.tw12720263243098407407 : True := trivial
theorem PySem.W.Fast.tw3227581384425140270 : True := trivial
theorem PySem.W.Fast.tw1482716014341387616 : True := trivial
theorem PySem.W.Fast.tw16456968857173610781 : True := trivial
theorem PySem.W.Fast.tw3768103384738093943 : True := trivial
theorem PySem.W.Fast.tw2147415233394703207 : True := trivial
theorem PySem.W.Fast.tw14683967542215979864 : True := trivial
theorem PySem.W.Fast.tw5610050404448337877 : True := trivial
theorem PySem.W.Fast.tw17519112219217708031 : True := trivial
theorem PySem.W.Fast.tw15451183547732718747 : True := trivial
theorem PySem.W.Fast.tw7155496977521958591 : True := trivial
theorem PySem.W.Fast.tw17000783689989946257 : True := trivial
theorem PySem.W.Fast.tw12788947513141019382 : True := trivial
theorem PySem.W.Fast.tw7866947013157033785 : True := trivial
theorem PySem.W.Fast.tw11480864628127460419 : True := trivial
theorem PySem.W.Fast.tw10836063841315571946 : True := trivial
theorem PySem.W.Fast.tw2052604099729835873 : True := trivial
theorem PySem.W.Fast.tw3037083289681946871 : True := trivial
theorem PySem.W.Fast.tw5340965906238889581 : True := trivial
theorem PySem.W.Fast.tw5452755291160212935 : True := trivial
theorem PySem.W.Fast.tw4517157231523044049 : True := trivial
theorem PySem.W.Fast.tw14454938621289092990 : True := trivial
theorem PySem.W.Fast.tw14329492992595750321 : True := trivial
theorem PySem.W.Fast.tw846043591517642718 : True := trivial
theorem PySem.W.Fast.tw3024223533579557619 : True := trivial
theorem PySem.W.Fast.tw374151198254153870 : True := trivial
theorem PySem.W.Fast.tw12476444304289181281 : True := trivial
theorem PySem.W.Fast.tw2492530895695954554 : True := trivial
theorem PySem.W.Fast.tw12816664165422493728 : True := trivial
theorem PySem.W.Fast.tw13067179602286240510 : True := trivial
theorem PySem.W.Fast.tw15877594150701118102 : True := trivial
theorem PySem.W.Fast.tw14051523225589861758 : True := trivial
theorem PySem.W.Fast.tw13486348322423812181 : True := trivial
theorem PySem.W.Fast.tw196007901432956423 : True := trivial
theorem PySem.W.Fast.tw8011298029456144349 : True := trivial
theorem PySem.W.Fast.tw14521396985788418132 : True := trivial
theorem PySem.W.Fast.tw8429404133824243775 : True := trivial
theorem PySem.W.Fast.tw13518683918020020938 : True := trivial
theorem PySem.W.Fast.tw1071741412561333298 : True := trivial
theorem PySem.W.Fast.tw17449829952601857172 : True := trivial
theorem PySem.W.Fast.tw2006566240383937067 : True := trivial
theorem PySem.W.Fast.tw17996401095492692088 : True := trivial
theorem PySem.W.Fast.tw11553009505543056883 : True := trivial
theorem PySem.W.Fast.tw14707909696089571296 : True := trivial
theorem PySem.W.Fast.tw6185104452590546066 : True := trivial
theorem PySem.W.Fast.tw5411438820976453351 : True := trivial
theorem PySem.W.Fast.tw3345567034748815287 : True := trivial
theorem PySem.W.Fast.tw122000509181053580 : True := trivial
theorem PySem.W.Fast.tw15869780552498349001 : True := trivial
theorem PySem.W.Fast.tw11579510049297423535 : True := trivial
theorem PySem.W.Fast.tw3328497360812873131 : True := trivial
theorem PySem.W.Fast.tw16412575682417512680 : True := trivial
theorem PySem.W.Fast.tw1681617404473287267 : True := trivial
theorem PySem.W.Fast.tw15569923475988690714 : True := trivial
theorem PySem.W.Fast.tw7956550729756757421 : True := trivial
theorem PySem.W.Fast.tw17310387139047392822 : True := trivial
theorem PySem.W.Fast.tw4947193007453599521 : True := trivial
theorem PySem.W.Fast.tw2940007026687415446 : True := trivial
theorem PySem.W.Fast.tw2443791788372627790 : True := trivial
theorem PySem.W.Fast.tw9429211848003449022 : True := trivial
theorem PySem.W.Fast.tw5576657928348251533 : True := trivial
theorem PySem.W.Fast.tw6463191126365510279 : True := trivial
theorem PySem.W.Fast.tw3420458888060246609 : True := trivial
theorem PySem.W.Fast.tw4410522131771924370 : True := trivial
theorem PySem.W.Fast.tw17534611960532207476 : True := trivial
theorem PySem.W.Fast.tw18442511073505815361 : True := trivial
theorem PySem.W.Fast.tw14859748184335211548 : True := trivial
theorem PySem.W.Fast.tw16750581546108994469 : True := trivial
theorem PySem.W.Fast.tw9444988296376089254 : True := trivial
theorem PySem.W.Fast.tw6013286016013601626 : True := trivial
theorem PySem.W.Fast.tw2474848345503761031 : True := trivial
theorem PySem.W.Fast.tw83968151333291539 : True := trivial
theorem PySem.W.Fast.tw5648245323935103212 : True := trivial
theorem PySem.W.Fast.tw15990306951376874377 : True := trivial
theorem PySem.W.Fast.tw15788710042031766507 : True := trivial
theorem PySem.W.Fast.tw12388195629414981698 : True := trivial
theorem PySem.W.Fast.tw10239481920060187204 : True := trivial
theorem PySem.W.Fast.tw4842926100290217545 : True := trivial
theorem PySem.W.Fast.tw17042632683951344292 : True := trivial
theorem PySem.W.Fast.tw14114821865245107145 : True := trivial
theorem PySem.W.Fast.tw5078183916540201562 : True := trivial
theorem PySem.W.Fast.tw10040312834384785273 : True := trivial
theorem PySem.W.Fast.tw6706426537219746914 : True := trivial
theorem PySem.W.Fast.tw8185994192884244577 : True := trivial
theorem PySem.W.Fast.tw2569219342037978319 : True := trivial
theorem PySem.W.Fast.tw18018020920370094382 : True := trivial
theorem PySem.W.Fast.tw16063408647258000415 : True := trivial
theorem PySem.W.Fast.tw3169746264185383732 : True := trivial
theorem PySem.W.Fast.tw13038683475317691107 : True := trivial
theorem PySem.W.Fast.tw4332853529533197008 : True := trivial
theorem PySem.W.Fast.tw6304434493200378637 : True := trivial
theorem PySem.W.Fast.tw9717244334478190908 : True := trivial
theorem PySem.W.Fast.tw15189384097147766318 : True := trivial
theorem PySem.W.Fast.tw7752293805273063409 : True := trivial
theorem PySem.W.Fast.tw2548145139780111989 : True := trivial
theorem PySem.W.Fast.tw18342260104071189982 : True := trivial
theorem PySem.W.Fast.tw18409741728927833705 : True := trivial
theorem PySem.W.Fast.tw14085957177621740571 : True := trivial
theorem PySem.W.Fast.tw5845853025842588705 : True := trivial
theorem PySem.W.Fast.tw11233096177012755366 : True := trivial
theorem PySem.W.Fast.tw17198994070463082170 : True := trivial
theorem PySem.W.Fast.tw18216511420390977025 : True := trivial
theorem PySem.W.Fast.tw10098833815145593362 : True := trivial
theorem PySem.W.Fast.tw9917074279205624788 : True := trivial
theorem PySem.W.Fast.tw1315154752342269766 : True := trivial
theorem PySem.W.Fast.tw11029666639616703357 : True := trivial
theorem PySem.W.Fast.tw10712162794599509963 : True := trivial
theorem PySem.W.Fast.tw18225477678642520203 : True := trivial
theorem PySem.W.Fast.tw5319787861632951645 : True := trivial
theorem PySem.W.Fast.tw9820586266601174554 : True := trivial
theorem PySem.W.Fast.tw13875646695552591227 : True := trivial
theorem PySem.W.Fast.tw1181552371193451663 : True := trivial
theorem PySem.W.Fast.tw6941992507448641472 : True := trivial
theorem PySem.W.Fast.tw7274635001098211010 : True := trivial
theorem PySem.W.Fast.tw5075953848998973360 : True := trivial
theorem PySem.W.Fast.tw13481114300291909922 : True := trivial
theorem PySem.W.Fast.tw13153394126930880017 : True := trivial
theorem PySem.W.Fast.tw13545458949858719242 : True := trivial
theorem PySem.W.Fast.tw595028387417459013 : True := trivial
theorem PySem.W.Fast.tw11351571895752624674 : True := trivial
theorem PySem.W.Fast.tw12800137791728517838 : True := trivial
theorem PySem.W.Fast.tw18165325017748907303 : True := trivial
theorem PySem.W.Fast.tw17534939582578811014 : True := trivial
theorem PySem.W.Fast.tw714985237716873261 : True := trivial
theorem PySem.W.Fast.tw11032476723014601133 : True := trivial
theorem PySem.W.Fast.tw18272594508203690574 : True := trivial
theorem PySem.W.Fast.tw13361535827364826761 : True := trivial
theorem PySem.W.Fast.tw15126873776654951628 : True := trivial
theorem PySem.W.Fast.tw1861741787817822662 : True := trivial
theorem PySem.W.Fast.tw1292122474577778470 : True := trivial
theorem PySem.W.Fast.tw6177640944995075941 : True := trivial
theorem PySem.W.Fast.tw8370775966225901831 : True := trivial
theorem PySem.W.Fast.tw7094710059496148478 : True := trivial
theorem PySem.W.Fast.tw18283842682422468042 : True := trivial
theorem PySem.W.Fast.tw6562720928233447147 : True := trivial
theorem PySem.W.Fast.tw8875275338479040211 : True := trivial
theorem PySem.W.Fast.tw15601127967676465148 : True := trivial
theorem PySem.W.Fast.tw15998380035206038404 : True := trivial
theorem PySem.W.Fast.tw5198085719123344803 : True := trivial
theorem PySem.W.Fast.tw11563163529076336694 : True := trivial
theorem PySem.W.Fast.tw6085741431760542197 : True := trivial
theorem PySem.W.Fast.tw7832341777031992200 : True := trivial
theorem PySem.W.Fast.tw12727219301766215759 : True := trivial
theorem PySem.W.Fast.tw3219895528611153395 : True := trivial
theorem PySem.W.Fast.tw14191406149612776195 : True := trivial
theorem PySem.W.Fast.tw1149389492861162541 : True := trivial
theorem PySem.W.Fast.tw15218257976657570301 : True := trivial
theorem PySem.W.Fast.tw10505311500210472038 : True := trivial
theorem PySem.W.Fast.tw13818259995986915265 : True := trivial
theorem PySem.W.Fast.tw17183152696568175233 : True := trivial
theorem PySem.W.Fast.tw11519920519987795053 : True := trivial
theorem PySem.W.Fast.tw8553651800370961852 : True := trivial
theorem PySem.W.Fast.tw14393449857896122144 : True := trivial
theorem PySem.W.Fast.tw7865639485410119722 : True := trivial
theorem PySem.W.Fast.tw13562475314714638215 : True := trivial
theorem PySem.W.Fast.tw3906159430370924677 : True := trivial
theorem PySem.W.Fast.tw11180392075810753479 : True := trivial
theorem PySem.W.Fast.tw1667162380743213483 : True := trivial
theorem PySem.W.Fast.tw11162649354664732042 : True := trivial
theorem PySem.W.Fast.tw9636955072953329493 : True := trivial
theorem PySem.W.Fast.tw6555796359657449164 : True := trivial
theorem PySem.W.Fast.tw13310070824743344256 : True := trivial
theorem PySem.W.Fast.tw4819606622499506745 : True := trivial
theorem PySem.W.Fast.tw3429809756818853353 : True := trivial
theorem PySem.W.Fast.tw3625725201891228011 : True := trivial
theorem PySem.W.Fast.tw6166609518259413568 : True := trivial
theorem PySem.W.Fast.tw1905329978966343068 : True := trivial
theorem PySem.W.Fast.tw14926013568444418419 : True := trivial
theorem PySem.W.Fast.tw14465944640456234768 : True := trivial
theorem PySem.W.Fast.tw5465435523368136845 : True := trivial
theorem PySem.W.Fast.tw7123181274437943770 : True := trivial
theorem PySem.W.Fast.tw9122937814866071532 : True := trivial
theorem PySem.W.Fast.tw3758211435020345426 : True := trivial
theorem PySem.W.Fast.tw7706267179727274737 : True := trivial
theorem PySem.W.Fast.tw17014173746987816761 : True := trivial
theorem PySem.W.Fast.tw9414128814231904332 : True := trivial
theorem PySem.W.Fast.tw11731091068341141183 : True := trivial
theorem PySem.W.Fast.tw17564563278546626608 : True := trivial
theorem PySem.W.Fast.tw2242766080908888091 : True := trivial
theorem PySem.W.Fast.tw16249321040891660950 : True := trivial
theorem PySem.W.Fast.tw7655426885556966202 : True := trivial
theorem PySem.W.Fast.tw9647142650780702715 : True := trivial
theorem PySem.W.Fast.tw13994575926419694152 : True := trivial
theorem PySem.W.Fast.tw11997218414468777313 : True := trivial
theorem PySem.W.Fast.tw16343994972053638496 : True := trivial
theorem PySem.W.Fast.tw1713036427304446939 : True := trivial
theorem PySem.W.Fast.tw16252618364215536635 : True := trivial
theorem PySem.W.Fast.tw6960660502184111057 : True := trivial
theorem PySem.W.Fast.tw11092750349548380623 : True := trivial
theorem PySem.W.Fast.tw5916589657737553321 : True := trivial
theorem PySem.W.Fast.tw5257935562252580096 : True := trivial
theorem PySem.W.Fast.tw5857685845546305478 : True := trivial
theorem PySem.W.Fast.tw15076968214405703659 : True := trivial
theorem PySem.W.Fast.tw13164823668930852215 : True := trivial
theorem PySem.W.Fast.tw10783238617570174059 : True := trivial
theorem PySem.W.Fast.tw18248797317145846005 : True := trivial
theorem PySem.W.Fast.tw11740082988079201235 : True := trivial
theorem PySem.W.Fast.tw4895187065720401547 : True := trivial
theorem PySem.W.Fast.tw7716470551940121375 : True := trivial
theorem PySem.W.Fast.tw4710461951772120493 : True := trivial
theorem PySem.W.Fast.tw1350730826799101597 : True := trivial
theorem PySem.W.Fast.tw8738648858025921351 : True := trivial
theorem PySem.W.Fast.tw1747480032761752223 : True := trivial
theorem PySem.W.Fast.tw10446125521402365881 : True := trivial
theorem PySem.W.Fast.tw10581593030589368908 : True := trivial
theorem PySem.W.Fast.tw2408573144174218409 : True := trivial
theorem PySem.W.Fast.tw8848777702319679030 : True := trivial
theorem PySem.W.Fast.tw4811462461857519200 : True := trivial
theorem PySem.W.Fast.tw15344835263809915409 : True := trivial
theorem PySem.W.Fast.tw4938335253158277576 : True := trivial
theorem PySem.W.Fast.tw2718586827825112660 : True := trivial
theorem PySem.W.Fast.tw2480490399335136802 : True := trivial
theorem PySem.W.Fast.tw7022689115160370422 : True := trivial
theorem PySem.W.Fast.tw1077477372531035446 : True := trivial
theorem PySem.W.Fast.tw6828811101013479937 : True := trivial
theorem PySem.W.Fast.tw11097901389993253721 : True := trivial
theorem PySem.W.Fast.tw3919940042111802185 : True := trivial
theorem PySem.W.Fast.tw7809297782710543750 : True := trivial
theorem PySem.W.Fast.tw4930168860219691127 : True := trivial
theorem PySem.W.Fast.tw12074875664976381104 : True := trivial
theorem PySem.W.Fast.tw7264363601560324246 : True := trivial
theorem PySem.W.Fast.tw16170454804804342470 : True := trivial
theorem PySem.W.Fast.tw6587038196025574263 : True := trivial
theorem PySem.W.Fast.tw12891760415906575543 : True := trivial
theorem PySem.W.Fast.tw4247453441512528698 : True := trivial
theorem PySem.W.Fast.tw16054402192871399312 : True := trivial
theorem PySem.W.Fast.tw6988109589707870038 : True := trivial
theorem PySem.W.Fast.tw8492151342885112930 : True := trivial
theorem PySem.W.Fast.tw4365411360437579603 : True := trivial
theorem PySem.W.Fast.tw4292388800106637559 : True := trivial
theorem PySem.W.Fast.tw15778108013043472715 : True := trivial
theorem PySem.W.Fast.tw17878906140434812464 : True := trivial
theorem PySem.W.Fast.tw10970986578023070918 : True := trivial
theorem PySem.W.Fast.tw13675667704570162328 : True := trivial
theorem PySem.W.Fast.tw4857188596899386725 : True := trivial
theorem PySem.W.Fast.tw12529240588964409042 : True := trivial
theorem PySem.W.Fast.tw4893274281074637306 : True := trivial
theorem PySem.W.Fast.tw8248838460728486814 : True := trivial
theorem PySem.W.Fast.tw16504801246575124905 : True := trivial
theorem PySem.W.Fast.tw4369401932675323790 : True := trivial
theorem PySem.W.Fast.tw3397167317905933985 : True := trivial
theorem PySem.W.Fast.tw12706421950460283860 : True := trivial
theorem PySem.W.Fast.tw9524747763109161108 : True := trivial
theorem PySem.W.Fast.tw6249876790749455859 : True := trivial
theorem PySem.W.Fast.tw18203658525818287572 : True := trivial
theorem PySem.W.Fast.tw11790766095858139632 : True := trivial
theorem PySem.W.Fast.tw61859028383128566 : True := trivial
theorem PySem.W.Fast.tw7876528289472960566 : True := trivial
theorem PySem.W.Fast.tw8090911125333094593 : True := trivial
theorem PySem.W.Fast.tw13177054490446726033 : True := trivial
theorem PySem.W.Fast.tw1184012110286440681 : True := trivial
theorem PySem.W.Fast.tw8957649002976906217 : True := trivial
theorem PySem.W.Fast.tw14856603511611020902 : True := trivial
theorem PySem.W.Fast.tw16150306679495494260 : True := trivial
theorem PySem.W.Fast.tw16878737653264449694 : True := trivial
theorem PySem.W.Fast.tw10433422621659626828 : True := trivial
theorem PySem.W.Fast.tw7341496563761155113 : True := trivial
theorem PySem.W.Fast.tw4897522549926159841 : True := trivial
theorem PySem.W.Fast.tw15105540596952457798 : True := trivial
theorem PySem.W.Fast.tw11191385507393935846 : True := trivial
theorem PySem.W.Fast.tw11408917760225225516 : True := trivial
theorem PySem.W.Fast.tw10175041849853703873 : True := trivial
theorem PySem.W.Fast.tw16774878925947634675 : True := trivial
theorem PySem.W.Fast.tw9124669346743794423 : True := trivial
theorem PySem.W.Fast.tw4244956455279621677 : True := trivial
theorem PySem.W.Fast.tw282113291698681315 : True := trivial
theorem PySem.W.Fast.tw4042800429318765346 : True := trivial
theorem PySem.W.Fast.tw17486800580624387022 : True := trivial
theorem PySem.W.Fast.tw7328278181182670556 : True := trivial
theorem PySem.W.Fast.tw9134195850549653935 : True := trivial
theorem PySem.W.Fast.tw3494552821432587730 : True := trivial
theorem PySem.W.Fast.tw11699052340232918715 : True := trivial
theorem PySem.W.Fast.tw751432940978856917 : True := trivial
theorem PySem.W.Fast.tw15885303226954513153 : True := trivial
theorem PySem.W.Fast.tw15620167809986529152 : True := trivial
theorem PySem.W.Fast.tw2675368316058226489 : True := trivial
theorem PySem.W.Fast.tw11632728674628460921 : True := trivial
theorem PySem.W.Fast.tw13474937341159951002 : True := trivial
theorem PySem.W.Fast.tw9575255397253952609 : True := trivial
theorem PySem.W.Fast.tw10249641096144572960 : True := trivial
theorem PySem.W.Fast.tw13923886056485000523 : True := trivial
theorem PySem.W.Fast.tw2250038914704929976 : True := trivial
theorem PySem.W.Fast.tw3558230761918148923 : True := trivial
theorem PySem.W.Fast.tw12943253095559250080 : True := trivial
theorem PySem.W.Fast.tw15361250620407616143 : True := trivial
theorem PySem.W.Fast.tw5240082984568242920 : True := trivial
theorem PySem.W.Fast.tw7935832742659384330 : True := trivial
theorem PySem.W.Fast.tw8127310980729302887 : True := trivial
theorem PySem.W.Fast.tw2317815006651282516 : True := trivial
theorem PySem.W.Fast.tw16920328527632251163 : True := trivial
theorem PySem.W.Fast.tw15618211622615095954 : True := trivial
theorem PySem.W.Fast.tw7822251798076040077 : True := trivial
theorem PySem.W.Fast.tw6001056392659474461 : True := trivial
theorem PySem.W.Fast.tw15172978253766190122 : True := trivial
theorem PySem.W.Fast.tw2752716637921435641 : True := trivial
theorem PySem.W.Fast.tw1079272027960892183 : True := trivial
theorem PySem.W.Fast.tw18093942544746796541 : True := trivial
theorem PySem.W.Fast.tw17068763929609736577 : True := trivial
theorem PySem.W.Fast.tw16804507912819544697 : True := trivial
theorem PySem.W.Fast.tw14071534335006643569 : True := trivial
theorem PySem.W.Fast.tw11265505682056298355 : True := trivial
theorem PySem.W.Fast.tw12872576457230008490 : True := trivial
theorem PySem.W.Fast.tw10485167904301879013 : True := trivial
theorem PySem.W.Fast.tw3003591891579092477 : True := trivial
theorem PySem.W.Fast.tw6437333048438704944 : True := trivial
theorem PySem.W.Fast.tw15762714688881369078 : True := trivial
theorem PySem.W.Fast.tw5628491053382376889 : True := trivial
theorem PySem.W.Fast.tw305749008411316689 : True := trivial
theorem PySem.W.Fast.tw13382082732729982972 : True := trivial
theorem PySem.W.Fast.tw3711852821686994084 : True := trivial
theorem PySem.W.Fast.tw3783507150775583894 : True := trivial
theorem PySem.W.Fast.tw2294914811743159137 : True := trivial
theorem PySem.W.Fast.tw13986051028172347335 : True := trivial
theorem PySem.W.Fast.tw18059115349694316330 : True := trivial
theorem PySem.W.Fast.tw11257487306876673401 : True := trivial
theorem PySem.W.Fast.tw5713230466074166109 : True := trivial
theorem PySem.W.Fast.tw8841804048193122504 : True := trivial
theorem PySem.W.Fast.tw10225692217598026136 : True := trivial
theorem PySem.W.Fast.tw9213316629683675108 : True := trivial
theorem PySem.W.Fast.tw13057298510150877938 : True := trivial
theorem PySem.W.Fast.tw16893021561320885212 : True := trivial
theorem PySem.W.Fast.tw14107989606794890233 : True := trivial
theorem PySem.W.Fast.tw6786527666982982238 : True := trivial
theorem PySem.W.Fast.tw5772833212442575537 : True := trivial
theorem PySem.W.Fast.tw17916538820440363600 : True := trivial
theorem PySem.W.Fast.tw14398915635396705108 : True := trivial
theorem PySem.W.Fast.tw10391755599851423349 : True := trivial
theorem PySem.W.Fast.tw17743657618973230732 : True := trivial
theorem PySem.W.Fast.tw3210616543543141697 : True := trivial
theorem PySem.W.Fast.tw8941164182481698163 : True := trivial
theorem PySem.W.Fast.tw15089305969228624179 : True := trivial
theorem PySem.W.Fast.tw5884806459157642480 : True := trivial
theorem PySem.W.Fast.tw10871559320312275261 : True := trivial
theorem PySem.W.Fast.tw5900519809598177770 : True := trivial
theorem PySem.W.Fast.tw5679456189162810402 : True := trivial
theorem PySem.W.Fast.tw16317203324548483350 : True := trivial
theorem PySem.W.Fast.tw18146428492163996572 : True := trivial
theorem PySem.W.Fast.tw13458092839616520378 : True := trivial
theorem PySem.W.Fast.tw2216053736192051593 : True := trivial
theorem PySem.W.Fast.tw18008282447586096792 : True := trivial
theorem PySem.W.Fast.tw12138962032030666775 : True := trivial
theorem PySem.W.Fast.tw10613594887439678170 : True := trivial
theorem PySem.W.Fast.tw2671148203825626471 : True := trivial
theorem PySem.W.Fast.tw18072846974254497197 : True := trivial
theorem PySem.W.Fast.tw11985618700060694375 : True := trivial
theorem PySem.W.Fast.tw3333884115689453990 : True := trivial
theorem PySem.W.Fast.tw17523590570292369590 : True := trivial
theorem PySem.W.Fast.tw15436530443168603313 : True := trivial
theorem PySem.W.Fast.tw15453757246052537630 : True := trivial
theorem PySem.W.Fast.tw14180469016638726656 : True := trivial
theorem PySem.W.Fast.tw12428954385502413249 : True := trivial
theorem PySem.W.Fast.tw3647449929816367048 : True := trivial
theorem PySem.W.Fast.tw1777387734829701452 : True := trivial
theorem PySem.W.Fast.tw7508544489020188454 : True := trivial
theorem PySem.W.Fast.tw9738666859915843212 : True := trivial
theorem PySem.W.Fast.tw2712476860340620339 : True := trivial
theorem PySem.W.Fast.tw9055569885645595857 : True := trivial
theorem PySem.W.Fast.tw6318240824143317088 : True := trivial
theorem PySem.W.Fast.tw478966577359092229 : True := trivial
theorem PySem.W.Fast.tw11093098913210040490 : True := trivial
theorem PySem.W.Fast.tw2502054315782625083 : True := trivial
theorem PySem.W.Fast.tw2552828554836688907 : True := trivial
theorem PySem.W.Fast.tw16494179274352619969 : True := trivial
theorem PySem.W.Fast.tw6244457912904040789 : True := trivial
theorem PySem.W.Fast.tw313922473658643417 : True := trivial
theorem PySem.W.Fast.tw17477676936405976566 : True := trivial
theorem PySem.W.Fast.tw12316584577982185088 : True := trivial
theorem PySem.W.Fast.tw4691241095252468857 : True := trivial
theorem PySem.W.Fast.tw8908194681444081935 : True := trivial
theorem PySem.W.Fast.tw92314859303312857 : True := trivial
theorem PySem.W.Fast.tw15882287031199087152 : True := trivial
theorem PySem.W.Fast.tw14482578142162418625 : True := trivial
theorem PySem.W.Fast.tw2575664021102456085 : True := trivial
theorem PySem.W.Fast.tw18261631604474568115 : True := trivial
theorem PySem.W.Fast.tw14369589812331338595 : True := trivial
theorem PySem.W.Fast.tw8068125492472547490 : True := trivial
theorem PySem.W.Fast.tw2107754472789922368 : True := trivial
theorem PySem.W.Fast.tw15334469213052583937 : True := trivial
theorem PySem.W.Fast.tw5283748360944230655 : True := trivial
theorem PySem.W.Fast.tw15144114943528909018 : True := trivial
theorem PySem.W.Fast.tw5645926480901954770 : True := trivial
theorem PySem.W.Fast.tw7148072738895654746 : True := trivial
theorem PySem.W.Fast.tw10268531048861922740 : True := trivial
theorem PySem.W.Fast.tw5504737347118940843 : True := trivial
theorem PySem.W.Fast.tw3728639432326416046 : True := trivial
theorem PySem.W.Fast.tw17488765379152202580 : True := trivial
theorem PySem.W.Fast.tw13447979407455517967 : True := trivial
theorem PySem.W.Fast.tw16225902484164857373 : True := trivial
theorem PySem.W.Fast.tw9716328390464475628 : True := trivial
theorem PySem.W.Fast.tw5241391868881963923 : True := trivial
theorem PySem.W.Fast.tw9636690887136355292 : True := trivial
theorem PySem.W.Fast.tw2333369778976354226 : True := trivial
theorem PySem.W.Fast.tw1042281257770973289 : True := trivial
theorem PySem.W.Fast.tw1035321901288669276 : True := trivial
theorem PySem.W.Fast.tw3367390011038214808 : True := trivial
theorem PySem.W.Fast.tw254868859347936181 : True := trivial
theorem PySem.W.Fast.tw5397134608554467398 : True := trivial
theorem PySem.W.Fast.tw12635025768867761042 : True := trivial
theorem PySem.W.Fast.tw2006770915429700871 : True := trivial
theorem PySem.W.Fast.tw6248132411148180919 : True := trivial
theorem PySem.W.Fast.tw12973780880090212664 : True := trivial
theorem PySem.W.Fast.tw2237620179732332962 : True := trivial
theorem PySem.W.Fast.tw13677973679570599487 : True := trivial
theorem PySem.W.Fast.tw13608866893385671236 : True := trivial
theorem PySem.W.Fast.tw7776161787914469142 : True := trivial
theorem PySem.W.Fast.tw6476600954216636062 : True := trivial
theorem PySem.W.Fast.tw6426969305964557753 : True := trivial
theorem PySem.W.Fast.tw2165439271944199994 : True := trivial
theorem PySem.W.Fast.tw15194688346998318568 : True := trivial
theorem PySem.W.Fast.tw3142066097913061614 : True := trivial
theorem PySem.W.Fast.tw8067115424827666087 : True := trivial
theorem PySem.W.Fast.tw13341798273887102616 : True := trivial
theorem PySem.W.Fast.tw1516952025850163671 : True := trivial
theorem PySem.W.Fast.tw14128130029194931515 : True := trivial
theorem PySem.W.Fast.tw14801577168512631807 : True := trivial
theorem PySem.W.Fast.tw12217522600357447892 : True := trivial
theorem PySem.W.Fast.tw17224044752399102319 : True := trivial
theorem PySem.W.Fast.tw5656715839203838638 : True := trivial
theorem PySem.W.Fast.tw18303067033897274150 : True := trivial
theorem PySem.W.Fast.tw1306751453491765653 : True := trivial
theorem PySem.W.Fast.tw2399085761825534872 : True := trivial
theorem PySem.W.Fast.tw2605403712426456436 : True := trivial
theorem PySem.W.Fast.tw18008630812391687680 : True := trivial
theorem PySem.W.Fast.tw16250889716215049134 : True := trivial
theorem PySem.W.Fast.tw7820158501753143932 : True := trivial
theorem PySem.W.Fast.tw12601653128253768156 : True := trivial
theorem PySem.W.Fast.tw15449689522548419521 : True := trivial
theorem PySem.W.Fast.tw1376576668738710101 : True := trivial
theorem PySem.W.Fast.tw14773000499103462196 : True := trivial
theorem PySem.W.Fast.tw4323238285647490074 : True := trivial
theorem PySem.W.Fast.tw10364298664825000197 : True := trivial
theorem PySem.W.Fast.tw5069432289486189740 : True := trivial
theorem PySem.W.Fast.tw3539504752044797670 : True := trivial
theorem PySem.W.Fast.tw12238324387083475807 : True := trivial
theorem PySem.W.Fast.tw3804712924377543304 : True := trivial
theorem PySem.W.Fast.tw4429422076060406126 : True := trivial
theorem PySem.W.Fast.tw4930485188055291226 : True := trivial
theorem PySem.W.Fast.tw4504247902475212783 : True := trivial
theorem PySem.W.Fast.tw7651888619178936054 : True := trivial
theorem PySem.W.Fast.tw8783620789499736305 : True := trivial
theorem PySem.W.Fast.tw12525654138497463792 : True := trivial
theorem PySem.W.Fast.tw15561755744056124909 : True := trivial
theorem PySem.W.Fast.tw7036742594393595577 : True := trivial
theorem PySem.W.Fast.tw5739544466345285626 : True := trivial
theorem PySem.W.Fast.tw15979348682580542973 : True := trivial
theorem PySem.W.Fast.tw16933515057865118129 : True := trivial
theorem PySem.W.Fast.tw849658848153321037 : True := trivial
theorem PySem.W.Fast.tw12293913687789314628 : True := trivial
theorem PySem.W.Fast.tw9648508830765522822 : True := trivial
theorem PySem.W.Fast.tw5291431198233749587 : True := trivial
theorem PySem.W.Fast.tw1355485236629943943 : True := trivial
theorem PySem.W.Fast.tw13808210070373858276 : True := trivial
theorem PySem.W.Fast.tw6491609855153104565 : True := trivial
theorem PySem.W.Fast.tw7361715289266306471 : True := trivial
theorem PySem.W.Fast.tw10650140605035010816 : True := trivial
theorem PySem.W.Fast.tw4191760360800954479 : True := trivial
theorem PySem.W.Fast.tw4649947018811557795 : True := trivial
theorem PySem.W.Fast.tw9428016780619707341 : True := trivial
theorem PySem.W.Fast.tw14003910558078544516 : True := trivial
theorem PySem.W.Fast.tw15203928681804009899 : True := trivial
theorem PySem.W.Fast.tw9372250472676718839 : True := trivial
theorem PySem.W.Fast.tw10934179994235277690 : True := trivial
theorem PySem.W.Fast.tw112121553312381153 : True := trivial
theorem PySem.W.Fast.tw8511101228169345841 : True := trivial
theorem PySem.W.Fast.tw13183409728310299960 : True := trivial
theorem PySem.W.Fast.tw10722913016951940409 : True := trivial
theorem PySem.W.Fast.tw7227839207011116251 : True := trivial
theorem PySem.W.Fast.tw16082765527516584146 : True := trivial
theorem PySem.W.Fast.tw16962901642977173620 : True := trivial
theorem PySem.W.Fast.tw8606714566151633267 : True := trivial
theorem PySem.W.Fast.tw15346248021154021948 : True := trivial
theorem PySem.W.Fast.tw6603408359558203369 : True := trivial
theorem PySem.W.Fast.tw11956696335835856112 : True := trivial
theorem PySem.W.Fast.tw10577968826460603536 : True := trivial
theorem PySem.W.Fast.tw7293237925634233770 : True := trivial
theorem PySem.W.Fast.tw2506151337632491568 : True := trivial
theorem PySem.W.Fast.tw13364567924181148932 : True := trivial
theorem PySem.W.Fast.tw6384278117242623670 : True := trivial
theorem PySem.W.Fast.tw7928909090109481108 : True := trivial
theorem PySem.W.Fast.tw13621732168703489175 : True := trivial
theorem PySem.W.Fast.tw12006450052133461877 : True := trivial
theorem PySem.W.Fast.tw9756360592323745345 : True := trivial
theorem PySem.W.Fast.tw7588611746007825039 : True := trivial
theorem PySem.W.Fast.tw5140050201211801928 : True := trivial
theorem PySem.W.Fast.tw6970171726004245563 : True := trivial
theorem PySem.W.Fast.tw10841136248820678454 : True := trivial
theorem PySem.W.Fast.tw18025065739402371289 : True := trivial
theorem PySem.W.Fast.tw14975062462247003182 : True := trivial
theorem PySem.W.Fast.tw2835157356178968721 : True := trivial
theorem PySem.W.Fast.tw12221794209282830173 : True := trivial
theorem PySem.W.Fast.tw17986993414612388297 : True := trivial
theorem PySem.W.Fast.tw16533453682359553472 : True := trivial
theorem PySem.W.Fast.tw12759382601178740538 : True := trivial
theorem PySem.W.Fast.tw4216806860898965236 : True := trivial
theorem PySem.W.Fast.tw9960952140409241989 : True := trivial
theorem PySem.W.Fast.tw11803433736379326263 : True := trivial
theorem PySem.W.Fast.tw832811997245549613 : True := trivial
theorem PySem.W.Fast.tw16654202376339956799 : True := trivial
theorem PySem.W.Fast.tw17674511367240991556 : True := trivial
theorem PySem.W.Fast.tw11518893662363014026 : True := trivial
theorem PySem.W.Fast.tw12709381788358720084 : True := trivial
theorem PySem.W.Fast.tw12342735682757621940 : True := trivial
theorem PySem.W.Fast.tw11753159139053184099 : True := trivial
theorem PySem.W.Fast.tw781243327976081856 : True := trivial
theorem PySem.W.Fast.tw10780117014449581843 : True := trivial
theorem PySem.W.Fast.tw17097406452148128354 : True := trivial
theorem PySem.W.Fast.tw2534434008729056017 : True := trivial
theorem PySem.W.Fast.tw15525965868856036009 : True := trivial
theorem PySem.W.Fast.tw14387568288188648685 : True := trivial
theorem PySem.W.Fast.tw15315840219673741567 : True := trivial
theorem PySem.W.Fast.tw5476981467151609299 : True := trivial
theorem PySem.W.Fast.tw7022235536312169067 : True := trivial
theorem PySem.W.Fast.tw4827619211870382448 : True := trivial
theorem PySem.W.Fast.tw6646535321420620221 : True := trivial
theorem PySem.W.Fast.tw4225495006731859789 : True := trivial
theorem PySem.W.Fast.tw17763773447498806687 : True := trivial
theorem PySem.W.Fast.tw11100465823642777007 : True := trivial
theorem PySem.W.Fast.tw3178320574752047247 : True := trivial
theorem PySem.W.Fast.tw10140897615858762298 : True := trivial
theorem PySem.W.Fast.tw14635839920046320140 : True := trivial
theorem PySem.W.Fast.tw1087285854489336015 : True := trivial
theorem PySem.W.Fast.tw5377904288752961675 : True := trivial
theorem PySem.W.Fast.tw3816248840436808212 : True := trivial
theorem PySem.W.Fast.tw16463248670469433208 : True := trivial
theorem PySem.W.Fast.tw15692569646844317637 : True := trivial
theorem PySem.W.Fast.tw8124535495097480216 : True := trivial
theorem PySem.W.Fast.tw14187664538507186962 : True := trivial
theorem PySem.W.Fast.tw11292174040895759851 : True := trivial
theorem PySem.W.Fast.tw10216408169010396238 : True := trivial
theorem PySem.W.Fast.tw18430713342133292509 : True := trivial
theorem PySem.W.Fast.tw16632194340137252716 : True := trivial
theorem PySem.W.Fast.tw6391376230537918431 : True := trivial
theorem PySem.W.Fast.tw16276199665264931452 : True := trivial
theorem PySem.W.Fast.tw14780768378888920740 : True := trivial
theorem PySem.W.Fast.tw15846202225647462105 : True := trivial
theorem PySem.W.Fast.tw6551650213679164595 : True := trivial
theorem PySem.W.Fast.tw12103525740150976282 : True := trivial
theorem PySem.W.Fast.tw15147140451667514601 : True := trivial
theorem PySem.W.Fast.tw15828155251001096669 : True := trivial
theorem PySem.W.Fast.tw3558844302148269130 : True := trivial
theorem PySem.W.Fast.tw13169749555918023063 : True := trivial
theorem PySem.W.Fast.tw12993057328052284195 : True := trivial
theorem PySem.W.Fast.tw9832102667937874123 : True := trivial
theorem PySem.W.Fast.tw8703324435699362508 : True := trivial
theorem PySem.W.Fast.tw7223332182211839386 : True := trivial
theorem PySem.W.Fast.tw6091251422545030721 : True := trivial
theorem PySem.W.Fast.tw4581211718729133848 : True := trivial
theorem PySem.W.Fast.tw13003539741974595022 : True := trivial
theorem PySem.W.Fast.tw15382503999400082669 : True := trivial
theorem PySem.W.Fast.tw9331662389529209318 : True := trivial
theorem PySem.W.Fast.tw3433225978634823630 : True := trivial
theorem PySem.W.Fast.tw11602273783336816750 : True := trivial
theorem PySem.W.Fast.tw9857510205676156407 : True := trivial
theorem PySem.W.Fast.tw14569251355174459259 : True := trivial
theorem PySem.W.Fast.tw14499076926643054613 : True := trivial
theorem PySem.W.Fast.tw17086064612110122194 : True := trivial
theorem PySem.W.Fast.tw5229417949995793413 : True := trivial
theorem PySem.W.Fast.tw10671610466444047335 : True := trivial
theorem PySem.W.Fast.tw13747105951823914896 : True := trivial
theorem PySem.W.Fast.tw6508343268154307332 : True := trivial
theorem PySem.W.Fast.tw12623933477156071775 : True := trivial
theorem PySem.W.Fast.tw10727250739763569856 : True := trivial
theorem PySem.W.Fast.tw2836898621815532103 : True := trivial
theorem PySem.W.Fast.tw6150440009902284166 : True := trivial
theorem PySem.W.Fast.tw15045640881866551640 : True := trivial
theorem PySem.W.Fast.tw16260498650996254701 : True := trivial
theorem PySem.W.Fast.tw171376963988387983 : True := trivial
theorem PySem.W.Fast.tw13114883270059320666 : True := trivial
theorem PySem.W.Fast.tw17587167354209482094 : True := trivial
theorem PySem.W.Fast.tw15372674768982587079 : True := trivial
theorem PySem.W.Fast.tw14348708219667481948 : True := trivial
theorem PySem.W.Fast.tw12339375531217289478 : True := trivial
theorem PySem.W.Fast.tw17054471187282262968 : True := trivial
theorem PySem.W.Fast.tw8199729012549900296 : True := trivial
theorem PySem.W.Fast.tw13221549594859809027 : True := trivial
theorem PySem.W.Fast.tw2476599214949972282 : True := trivial
theorem PySem.W.Fast.tw324502659144159506 : True := trivial
theorem PySem.W.Fast.tw322534062276260107 : True := trivial
theorem PySem.W.Fast.tw9026967032269845571 : True := trivial
theorem PySem.W.Fast.tw6353300589706593062 : True := trivial
theorem PySem.W.Fast.tw6766532239025928713 : True := trivial
theorem PySem.W.Fast.tw1530811114100377443 : True := trivial
theorem PySem.W.Fast.tw7838071918208839253 : True := trivial
theorem PySem.W.Fast.tw8605845676544241025 : True := trivial
theorem PySem.W.Fast.tw5767650778422056152 : True := trivial
theorem PySem.W.Fast.tw9574058443323455540 : True := trivial
theorem PySem.W.Fast.tw5001743533731206521 : True := trivial
theorem PySem.W.Fast.tw7654471262282105073 : True := trivial
theorem PySem.W.Fast.tw1032404017018481984 : True := trivial
theorem PySem.W.Fast.tw9853785375732274022 : True := trivial
theorem PySem.W.Fast.tw1584071195932479582 : True := trivial
theorem PySem.W.Fast.tw16185268853777556555 : True := trivial
theorem PySem.W.Fast.tw9815221181508769977 : True := trivial
theorem PySem.W.Fast.tw13823069172754410692 : True := trivial
theorem PySem.W.Fast.tw7846240769730166676 : True := trivial
theorem PySem.W.Fast.tw2703375196411375319 : True := trivial
theorem PySem.W.Fast.tw18032067541578970735 : True := trivial
theorem PySem.W.Fast.tw15210195372600443541 : True := trivial
theorem PySem.W.Fast.tw10483446818557192784 : True := trivial
theorem PySem.W.Fast.tw6439926031647655306 : True := trivial
theorem PySem.W.Fast.tw10288213120124084304 : True := trivial
theorem PySem.W.Fast.tw9949680411486207030 : True := trivial
theorem PySem.W.Fast.tw5095841223699867166 : True := trivial
theorem PySem.W.Fast.tw10006591526527584718 : True := trivial
theorem PySem.W.Fast.tw7823666051587188823 : True := trivial
theorem PySem.W.Fast.tw3565725521447080842 : True := trivial
theorem PySem.W.Fast.tw7825911843191518988 : True := trivial
theorem PySem.W.Fast.tw13827769833193244488 : True := trivial
theorem PySem.W.Fast.tw6675161336790218600 : True := trivial
theorem PySem.W.Fast.tw16190111782977367816 : True := trivial
theorem PySem.W.Fast.tw6695663199628646158 : True := trivial
theorem PySem.W.Fast.tw651131320248471683 : True := trivial
theorem PySem.W.Fast.tw16602510715487331604 : True := trivial
theorem PySem.W.Fast.tw5074240152360527106 : True := trivial
theorem PySem.W.Fast.tw16401124837733971936 : True := trivial
theorem PySem.W.Fast.tw5382134522247488438 : True := trivial
theorem PySem.W.Fast.tw2592862555303963751 : True := trivial
theorem PySem.W.Fast.tw15567864467980793823 : True := trivial
theorem PySem.W.Fast.tw11759556027132131213 : True := trivial
theorem PySem.W.Fast.tw5525002654464089186 : True := trivial
theorem PySem.W.Fast.tw12300533457805254293 : True := trivial
theorem PySem.W.Fast.tw16830326469595821249 : True := trivial
theorem PySem.W.Fast.tw6244726500654229359 : True := trivial
theorem PySem.W.Fast.tw10514782513459446455 : True := trivial
theorem PySem.W.Fast.tw546169545721241083 : True := trivial
theorem PySem.W.Fast.tw6932258213709778328 : True := trivial
theorem PySem.W.Fast.tw17187644699719867344 : True := trivial
theorem PySem.W.Fast.tw5615064446716136343 : True := trivial
theorem PySem.W.Fast.tw1182270789909898627 : True := trivial
theorem PySem.W.Fast.tw4931999362844449144 : True := trivial
theorem PySem.W.Fast.tw3323051758996358583 : True := trivial
theorem PySem.W.Fast.tw1307534561910608722 : True := trivial
theorem PySem.W.Fast.tw15371960401034154170 : True := trivial
theorem PySem.W.Fast.tw16994814711180455978 : True := trivial
theorem PySem.W.Fast.tw9795034604659080221 : True := trivial
theorem PySem.W.Fast.tw17821541592595959889 : True := trivial
theorem PySem.W.Fast.tw14997152249495723045 : True := trivial
theorem PySem.W.Fast.tw7626900203754390705 : True := trivial
theorem PySem.W.Fast.tw16700890808159129513 : True := trivial
theorem PySem.W.Fast.tw4476444462127979591 : True := trivial
theorem PySem.W.Fast.tw17513346390728161177 : True := trivial
theorem PySem.W.Fast.tw8455269085245832357 : True := trivial
theorem PySem.W.Fast.tw6817484538758323959 : True := trivial
theorem PySem.W.Fast.tw1980249638582422287 : True := trivial
theorem PySem.W.Fast.tw7517098937086986281 : True := trivial
theorem PySem.W.Fast.tw10825316113413838859 : True := trivial
theorem PySem.W.Fast.tw7506024311084796304 : True := trivial
theorem PySem.W.Fast.tw3113823480820615653 : True := trivial
theorem PySem.W.Fast.tw5421397737811501633 : True := trivial
theorem PySem.W.Fast.tw16315261867986056622 : True := trivial
theorem PySem.W.Fast.tw1915665158613462087 : True := trivial
theorem PySem.W.Fast.tw14611966908406902514 : True := trivial
theorem PySem.W.Fast.tw13703129337518497881 : True := trivial
theorem PySem.W.Fast.tw3622638415241649857 : True := trivial
theorem PySem.W.Fast.tw10496475211043280715 : True := trivial
theorem PySem.W.Fast.tw13761882008261473854 : True := trivial
theorem PySem.W.Fast.tw3397463154162573417 : True := trivial
theorem PySem.W.Fast.tw5557260135285382492 : True := trivial
theorem PySem.W.Fast.tw14831190837776565734 : True := trivial
theorem PySem.W.Fast.tw13862679778603449066 : True := trivial
theorem PySem.W.Fast.tw8269932120453718217 : True := trivial
theorem PySem.W.Fast.tw3144179262894665645 : True := trivial
theorem PySem.W.Fast.tw12254949587759195041 : True := trivial
theorem PySem.W.Fast.tw1987557482866331317 : True := trivial
theorem PySem.W.Fast.tw7127162603451891012 : True := trivial
theorem PySem.W.Fast.tw3255284899925146488 : True := trivial
theorem PySem.W.Fast.tw4811017636137471204 : True := trivial
theorem PySem.W.Fast.tw2273233177181107410 : True := trivial
theorem PySem.W.Fast.tw9859843195901711655 : True := trivial
theorem PySem.W.Fast.tw10400283008159660404 : True := trivial
theorem PySem.W.Fast.tw5587279419990031817 : True := trivial
theorem PySem.W.Fast.tw18027366933217230723 : True := trivial
theorem PySem.W.Fast.tw7651815054721460721 : True := trivial
theorem PySem.W.Fast.tw1728426366010462151 : True := trivial
theorem PySem.W.Fast.tw2780420542717363189 : True := trivial
theorem PySem.W.Fast.tw7078660621476791837 : True := trivial
theorem PySem.W.Fast.tw13455600702277675610 : True := trivial
theorem PySem.W.Fast.tw15076381407132155678 : True := trivial
theorem PySem.W.Fast.tw5594365712845038812 : True := trivial
theorem PySem.W.Fast.tw1814998684925309489 : True := trivial
theorem PySem.W.Fast.tw5372852066718058531 : True := trivial
theorem PySem.W.Fast.tw879068598320238047 : True := trivial
theorem PySem.W.Fast.tw1255313376851453201 : True := trivial
theorem PySem.W.Fast.tw9505141135846097859 : True := trivial
theorem PySem.W.Fast.tw7310325258176863894 : True := trivial
theorem PySem.W.Fast.tw9929450748550701693 : True := trivial
theorem PySem.W.Fast.tw18367690733672500116 : True := trivial
theorem PySem.W.Fast.tw7870098792877854674 : True := trivial
theorem PySem.W.Fast.tw17132804515089756055 : True := trivial
theorem PySem.W.Fast.tw4541423580744749519 : True := trivial
theorem PySem.W.Fast.tw11331427457452921443 : True := trivial
theorem PySem.W.Fast.tw16473779052647641168 : True := trivial
theorem PySem.W.Fast.tw2346036385825196053 : True := trivial
theorem PySem.W.Fast.tw9485345858978197158 : True := trivial
theorem PySem.W.Fast.tw6678356271567566594 : True := trivial
theorem PySem.W.Fast.tw16360238226125947705 : True := trivial
theorem PySem.W.Fast.tw9173569541940878134 : True := trivial
theorem PySem.W.Fast.tw13503053902309767549 : True := trivial
theorem PySem.W.Fast.tw13289748217651589940 : True := trivial
theorem PySem.W.Fast.tw11138464350161023224 : True := trivial
theorem PySem.W.Fast.tw2887545886778546314 : True := trivial
theorem PySem.W.Fast.tw12526891333068397732 : True := trivial
theorem PySem.W.Fast.tw18171639435100309528 : True := trivial
theorem PySem.W.Fast.tw9844493035367204344 : True := trivial
theorem PySem.W.Fast.tw1257439759330269695 : True := trivial
theorem PySem.W.Fast.tw12067464359213375223 : True := trivial
theorem PySem.W.Fast.tw12494316422962073263 : True := trivial
theorem PySem.W.Fast.tw16842017518255588821 : True := trivial
theorem PySem.W.Fast.tw17742724906411305083 : True := trivial
theorem PySem.W.Fast.tw10266906909781576615 : True := trivial
theorem PySem.W.Fast.tw11850713361953111336 : True := trivial
theorem PySem.W.Fast.tw13787875778655122970 : True := trivial
theorem PySem.W.Fast.tw17729858459498998362 : True := trivial
theorem PySem.W.Fast.tw14739744637637335022 : True := trivial
theorem PySem.W.Fast.tw10340888291981818988 : True := trivial
theorem PySem.W.Fast.tw13488441993641953657 : True := trivial
theorem PySem.W.Fast.tw12107459905468871632 : True := trivial
theorem PySem.W.Fast.tw11207561844175276455 : True := trivial
theorem PySem.W.Fast.tw15697531323393780921 : True := trivial
theorem PySem.W.Fast.tw7922056251356950594 : True := trivial
theorem PySem.W.Fast.tw2569980498782031799 : True := trivial
theorem PySem.W.Fast.tw4921050129892900666 : True := trivial
theorem PySem.W.Fast.tw4839722324484449127 : True := trivial
theorem PySem.W.Fast.tw11868173710856987259 : True := trivial
theorem PySem.W.Fast.tw10696218691863318521 : True := trivial
theorem PySem.W.Fast.tw2255817675795987761 : True := trivial
theorem PySem.W.Fast.tw1800414362352790118 : True := trivial
theorem PySem.W.Fast.tw16001558739859805128 : True := trivial
theorem PySem.W.Fast.tw18140735660081595611 : True := trivial
theorem PySem.W.Fast.tw17096433661519302792 : True := trivial
theorem PySem.W.Fast.tw4573240750885107923 : True := trivial
theorem PySem.W.Fast.tw14888122280076741632 : True := trivial
theorem PySem.W.Fast.tw3416759689094954591 : True := trivial
theorem PySem.W.Fast.tw4951272369518768286 : True := trivial
theorem PySem.W.Fast.tw11148915704433854512 : True := trivial
theorem PySem.W.Fast.tw11804271273030468230 : True := trivial
theorem PySem.W.Fast.tw10600959879954234468 : True := trivial
theorem PySem.W.Fast.tw10440874754090973006 : True := trivial
theorem PySem.W.Fast.tw15316349755076642653 : True := trivial
theorem PySem.W.Fast.tw14504474269537984074 : True := trivial
theorem PySem.W.Fast.tw1768606659086945476 : True := trivial
theorem PySem.W.Fast.tw17016877373778065981 : True := trivial
theorem PySem.W.Fast.tw13698255023851427095 : True := trivial
theorem PySem.W.Fast.tw1105982756543388251 : True := trivial
theorem PySem.W.Fast.tw3062448944978871841 : True := trivial
theorem PySem.W.Fast.tw11313277703127967869 : True := trivial
theorem PySem.W.Fast.tw15427834573213835610 : True := trivial
theorem PySem.W.Fast.tw10909204947026156012 : True := trivial
theorem PySem.W.Fast.tw8108228221684857248 : True := trivial
theorem PySem.W.Fast.tw14005919965383696662 : True := trivial
theorem PySem.W.Fast.tw11108829897775686573 : True := trivial
theorem PySem.W.Fast.tw2136829645555824101 : True := trivial
theorem PySem.W.Fast.tw5585916247244833918 : True := trivial
theorem PySem.W.Fast.tw16350681970765175005 : True := trivial
theorem PySem.W.Fast.tw5052697505412592681 : True := trivial
theorem PySem.W.Fast.tw3911355139054763694 : True := trivial
theorem PySem.W.Fast.tw8275863589579502230 : True := trivial
theorem PySem.W.Fast.tw6142361414259751620 : True := trivial
theorem PySem.W.Fast.tw1097917343410325603 : True := trivial
theorem PySem.W.Fast.tw9610741208962272923 : True := trivial
theorem PySem.W.Fast.tw13090309121072632481 : True := trivial
theorem PySem.W.Fast.tw16351723266637093413 : True := trivial
theorem PySem.W.Fast.tw13433957531844741611 : True := trivial
theorem PySem.W.Fast.tw15050446185378415969 : True := trivial
theorem PySem.W.Fast.tw3929464253033880286 : True := trivial
theorem PySem.W.Fast.tw1688102702719669502 : True := trivial
theorem PySem.W.Fast.tw11540631030521386812 : True := trivial
theorem PySem.W.Fast.tw10437452513098968500 : True := trivial
theorem PySem.W.Fast.tw6600737445581849998 : True := trivial
theorem PySem.W.Fast.tw18062523289628942485 : True := trivial
theorem PySem.W.Fast.tw5832124940801519154 : True := trivial
theorem PySem.W.Fast.tw4458371225703267069 : True := trivial
theorem PySem.W.Fast.tw14171047071297902425 : True := trivial
theorem PySem.W.Fast.tw14571852471628005373 : True := trivial
theorem PySem.W.Fast.tw1990970955798243771 : True := trivial
theorem PySem.W.Fast.tw6986891322538862623 : True := trivial
theorem PySem.W.Fast.tw16726224965237380256 : True := trivial
theorem PySem.W.Fast.tw702503858120117269 : True := trivial
theorem PySem.W.Fast.tw15974633574738150247 : True := trivial
theorem PySem.W.Fast.tw6803635250203621967 : True := trivial
theorem PySem.W.Fast.tw16434441197655365786 : True := trivial
theorem PySem.W.Fast.tw13043946481162173852 : True := trivial
theorem PySem.W.Fast.tw13133979732242248794 : True := trivial
theorem PySem.W.Fast.tw11485464899393399030 : True := trivial
theorem PySem.W.Fast.tw11245052417410786583 : True := trivial
theorem PySem.W.Fast.tw3064031790669141725 : True := trivial
theorem PySem.W.Fast.tw9643073195496935419 : True := trivial
theorem PySem.W.Fast.tw16359093691421099501 : True := trivial
theorem PySem.W.Fast.tw17636398431052105454 : True := trivial
theorem PySem.W.Fast.tw17128744330787193218 : True := trivial
theorem PySem.W.Fast.tw977301247039478773 : True := trivial
theorem PySem.W.Fast.tw12156013605562805759 : True := trivial
theorem PySem.W.Fast.tw11244268965323005770 : True := trivial
theorem PySem.W.Fast.tw3413414636639475901 : True := trivial
theorem PySem.W.Fast.tw16146439838298530546 : True := trivial
theorem PySem.W.Fast.tw6866034110746092395 : True := trivial
theorem PySem.W.Fast.tw17824935905930330911 : True := trivial
theorem PySem.W.Fast.tw10528431010718781408 : True := trivial
theorem PySem.W.Fast.tw14052747511045985610 : True := trivial
theorem PySem.W.Fast.tw16062071486872659982 : True := trivial
theorem PySem.W.Fast.tw15172884478920809839 : True := trivial
theorem PySem.W.Fast.tw8071019572452846220 : True := trivial
theorem PySem.W.Fast.tw9532317573089013260 : True := trivial
theorem PySem.W.Fast.tw9775528697199112938 : True := trivial
theorem PySem.W.Fast.tw3942901217215338429 : True := trivial
theorem PySem.W.Fast.tw1960637596282764937 : True := trivial
theorem PySem.W.Fast.tw4220058050778554176 : True := trivial
theorem PySem.W.Fast.tw15850699831392996896 : True := trivial
theorem PySem.W.Fast.tw1960840774088748380 : True := trivial
theorem PySem.W.Fast.tw12585496596799491279 : True := trivial
theorem PySem.W.Fast.tw3464713763932243091 : True := trivial
theorem PySem.W.Fast.tw16377303067948325160 : True := trivial
theorem PySem.W.Fast.tw10335235118275640076 : True := trivial
theorem PySem.W.Fast.tw8215699668070008612 : True := trivial
theorem PySem.W.Fast.tw13584186071394077189 : True := trivial
theorem PySem.W.Fast.tw18344477447624348484 : True := trivial
theorem PySem.W.Fast.tw1247989125699938908 : True := trivial
theorem PySem.W.Fast.tw7045223551184799077 : True := trivial
theorem PySem.W.Fast.tw10504425131101284270 : True := trivial
theorem PySem.W.Fast.tw17199798528646985203 : True := trivial
theorem PySem.W.Fast.tw10000311229349705415 : True := trivial
theorem PySem.W.Fast.tw11321521817843406170 : True := trivial
theorem PySem.W.Fast.tw12263134673876233803 : True := trivial
theorem PySem.W.Fast.tw3857308121426297738 : True := trivial
theorem PySem.W.Fast.tw5292481098758160248 : True := trivial
theorem PySem.W.Fast.tw14575807339772549037 : True := trivial
theorem PySem.W.Fast.tw14555432363187887529 : True := trivial
theorem PySem.W.Fast.tw2991909207402102397 : True := trivial
theorem PySem.W.Fast.tw15059121779304935127 : True := trivial
theorem PySem.W.Fast.tw9927006044592316038 : True := trivial
theorem PySem.W.Fast.tw10076176111486899701 : True := trivial
theorem PySem.W.Fast.tw8497171256475088139 : True := trivial
theorem PySem.W.Fast.tw8384681598440985142 : True := trivial
theorem PySem.W.Fast.tw8109343313890125822 : True := trivial
theorem PySem.W.Fast.tw9344213578277893497 : True := trivial
theorem PySem.W.Fast.tw11202018103248542919 : True := trivial
theorem PySem.W.Fast.tw15718638294172746296 : True := trivial
theorem PySem.W.Fast.tw2528331689079344482 : True := trivial
theorem PySem.W.Fast.tw10787710514292830848 : True := trivial
theorem PySem.W.Fast.tw9323926529840882137 : True := trivial
theorem PySem.W.Fast.tw8974009064693889587 : True := trivial
theorem PySem.W.Fast.tw17616115859989959148 : True := trivial
theorem PySem.W.Fast.tw17669528448340380496 : True := trivial
theorem PySem.W.Fast.tw8824963475860494526 : True := trivial
theorem PySem.W.Fast.tw5412897395097948002 : True := trivial
theorem PySem.W.Fast.tw18229899397495258935 : True := trivial
theorem PySem.W.Fast.tw8096241718866351805 : True := trivial
theorem PySem.W.Fast.tw13311662140168286502 : True := trivial
theorem PySem.W.Fast.tw11801193057457348833 : True := trivial
theorem PySem.W.Fast.tw1491591347576151848 : True := trivial
theorem PySem.W.Fast.tw6234867795220804559 : True := trivial
theorem PySem.W.Fast.tw18079760386742842684 : True := trivial
theorem PySem.W.Fast.tw16200814097591074038 : True := trivial
theorem PySem.W.Fast.tw18263605295512903410 : True := trivial
theorem PySem.W.Fast.tw6439125959101398615 : True := trivial
theorem PySem.W.Fast.tw3197505955121794797 : True := trivial
theorem PySem.W.Fast.tw708835834782066524 : True := trivial
theorem PySem.W.Fast.tw3096415567757478029 : True := trivial
theorem PySem.W.Fast.tw9103606422735207924 : True := trivial
theorem PySem.W.Fast.tw13427045914140988316 : True := trivial
theorem PySem.W.Fast.tw7801330880394917278 : True := trivial
theorem PySem.W.Fast.tw1204876824030373900 : True := trivial
theorem PySem.W.Fast.tw1301307960075901159 : True := trivial
theorem PySem.W.Fast.tw830760378462545012 : True := trivial
theorem PySem.W.Fast.tw10586356556339757246 : True := trivial
theorem PySem.W.Fast.tw7434759230918018317 : True := trivial
theorem PySem.W.Fast.tw600533871304529591 : True := trivial
theorem PySem.W.Fast.tw16416742216681406097 : True := trivial
theorem PySem.W.Fast.tw13692732003493891251 : True := trivial
theorem PySem.W.Fast.tw1148700308128311500 : True := trivial
theorem PySem.W.Fast.tw10529208596826381740 : True := trivial
theorem PySem.W.Fast.tw12283884120580744055 : True := trivial
theorem PySem.W.Fast.tw14291759062425485612 : True := trivial
theorem PySem.W.Fast.tw16279432315529496762 : True := trivial
theorem PySem.W.Fast.tw10896844395864910121 : True := trivial
theorem PySem.W.Fast.tw15034658375316809651 : True := trivial
theorem PySem.W.Fast.tw8682741986926082433 : True := trivial
theorem PySem.W.Fast.tw18136957235630831487 : True := trivial
theorem PySem.W.Fast.tw13597218460462103507 : True := trivial
theorem PySem.W.Fast.tw18218333829266066435 : True := trivial
theorem PySem.W.Fast.tw1238307913816470486 : True := trivial
theorem PySem.W.Fast.tw3160181980829318290 : True := trivial
theorem PySem.W.Fast.tw552892704175293493 : True := trivial
theorem PySem.W.Fast.tw18198023489677301439 : True := trivial
theorem PySem.W.Fast.tw6668481827357660147 : True := trivial
theorem PySem.W.Fast.tw174964830738024659 : True := trivial
theorem PySem.W.Fast.tw2039767676267595764 : True := trivial
theorem PySem.W.Fast.tw5192498708435264335 : True := trivial
theorem PySem.W.Fast.tw7564312667245602081 : True := trivial
theorem PySem.W.Fast.tw10205064900167493775 : True := trivial
theorem PySem.W.Fast.tw877837561877198445 : True := trivial
theorem PySem.W.Fast.tw17649617402360154638 : True := trivial
theorem PySem.W.Fast.tw9679119732433108852 : True := trivial
theorem PySem.W.Fast.tw11671220764379979877 : True := trivial
theorem PySem.W.Fast.tw12700364237603323821 : True := trivial
theorem PySem.W.Fast.tw1869813865916002655 : True := trivial
theorem PySem.W.Fast.tw15306084953121345439 : True := trivial
theorem PySem.W.Fast.tw5002196643242252613 : True := trivial
theorem PySem.W.Fast.tw4968177716843888976 : True := trivial
theorem PySem.W.Fast.tw14827733744743806492 : True := trivial
theorem PySem.W.Fast.tw8234743197219278576 : True := trivial
theorem PySem.W.Fast.tw14656449130980119661 : True := trivial
theorem PySem.W.Fast.tw16257170366355436007 : True := trivial
theorem PySem.W.Fast.tw17953626335938113651 : True := trivial
theorem PySem.W.Fast.tw16729073422941463541 : True := trivial
theorem PySem.W.Fast.tw10752471396798113771 : True := trivial
theorem PySem.W.Fast.tw15172097009287806932 : True := trivial
theorem PySem.W.Fast.tw11006205335965221130 : True := trivial
theorem PySem.W.Fast.tw8584392742518397321 : True := trivial
theorem PySem.W.Fast.tw11750524158797735282 : True := trivial
theorem PySem.W.Fast.tw17958148125800650492 : True := trivial
theorem PySem.W.Fast.tw14995241369870725183 : True := trivial
theorem PySem.W.Fast.tw11292851927412883925 : True := trivial
theorem PySem.W.Fast.tw4942086063394532149 : True := trivial
theorem PySem.W.Fast.tw2344281264159990864 : True := trivial
theorem PySem.W.Fast.tw3019790973435614557 : True := trivial
theorem PySem.W.Fast.tw13826057952407195674 : True := trivial
theorem PySem.W.Fast.tw4511953553341983121 : True := trivial
theorem PySem.W.Fast.tw13051050901059361844 : True := trivial
theorem PySem.W.Fast.tw7033068719718627094 : True := trivial
theorem PySem.W.Fast.tw6406808784336437158 : True := trivial
theorem PySem.W.Fast.tw460438984135960165 : True := trivial
theorem PySem.W.Fast.tw2572654820996376751 : True := trivial
theorem PySem.W.Fast.tw3534666484336806169 : True := trivial
theorem PySem.W.Fast.tw12079107901794188687 : True := trivial
theorem PySem.W.Fast.tw1892318467846450523 : True := trivial
theorem PySem.W.Fast.tw9807989876919164893 : True := trivial
theorem PySem.W.Fast.tw4143560263609453863 : True := trivial
theorem PySem.W.Fast.tw18068665682773090371 : True := trivial
theorem PySem.W.Fast.tw17446186867046363279 : True := trivial
theorem PySem.W.Fast.tw6715157633734152326 : True := trivial
theorem PySem.W.Fast.tw13023064190892031602 : True := trivial
theorem PySem.W.Fast.tw8115088171002782174 : True := trivial
theorem PySem.W.Fast.tw13794239983068869198 : True := trivial
theorem PySem.W.Fast.tw10418441881459734655 : True := trivial
theorem PySem.W.Fast.tw450851553288041706 : True := trivial
theorem PySem.W.Fast.tw3420471135146881598 : True := trivial
theorem PySem.W.Fast.tw3205334174552620094 : True := trivial
theorem PySem.W.Fast.tw3797016480623873953 : True := trivial
theorem PySem.W.Fast.tw5528524578736283287 : True := trivial
theorem PySem.W.Fast.tw6204709737850194454 : True := trivial
theorem PySem.W.Fast.tw1807786404338671142 : True := trivial
theorem PySem.W.Fast.tw12346698737818150724 : True := trivial
theorem PySem.W.Fast.tw3851826881078611058 : True := trivial
theorem PySem.W.Fast.tw557428517161728141 : True := trivial
theorem PySem.W.Fast.tw10617948408832632965 : True := trivial
theorem PySem.W.Fast.tw8387601121731146286 : True := trivial
theorem PySem.W.Fast.tw9536799662045727145 : True := trivial
theorem PySem.W.Fast.tw15312734743152401567 : True := trivial
theorem PySem.W.Fast.tw216491753621955091 : True := trivial
theorem PySem.W.Fast.tw1311714964123657419 : True := trivial
theorem PySem.W.Fast.tw8561698586346794845 : True := trivial
theorem PySem.W.Fast.tw18113606726743617373 : True := trivial
theorem PySem.W.Fast.tw1372438331241478098 : True := trivial
theorem PySem.W.Fast.tw15606704726531779560 : True := trivial
theorem PySem.W.Fast.tw6525583661363997292 : True := trivial
theorem PySem.W.Fast.tw10798815881726809049 : True := trivial
theorem PySem.W.Fast.tw16972668235460397816 : True := trivial
theorem PySem.W.Fast.tw6757579628210750885 : True := trivial
theorem PySem.W.Fast.tw17819301452483151730 : True := trivial
theorem PySem.W.Fast.tw18362716956414602389 : True := trivial
theorem PySem.W.Fast.tw9885716612257842657 : True := trivial
theorem PySem.W.Fast.tw16951919971688839182 : True := trivial
theorem PySem.W.Fast.tw15796332760024154024 : True := trivial
theorem PySem.W.Fast.tw15805183646033555943 : True := trivial
theorem PySem.W.Fast.tw4811118704714147115 : True := trivial
theorem PySem.W.Fast.tw17979651450403446263 : True := trivial
theorem PySem.W.Fast.tw9810822258530337685 : True := trivial
theorem PySem.W.Fast.tw11043772854697599589 : True := trivial
theorem PySem.W.Fast.tw8893360486251365853 : True := trivial
theorem PySem.W.Fast.tw5287915038526448877 : True := trivial
theorem PySem.W.Fast.tw12006158208927693400 : True := trivial
theorem PySem.W.Fast.tw9140357230877080021 : True := trivial
theorem PySem.W.Fast.tw16588557106374411874 : True := trivial
theorem PySem.W.Fast.tw16985453839837584407 : True := trivial
theorem PySem.W.Fast.tw5981684147423811190 : True := trivial
theorem PySem.W.Fast.tw10760873886036388312 : True := trivial
theorem PySem.W.Fast.tw14266996863832571227 : True := trivial
theorem PySem.W.Fast.tw5820967923658021840 : True := trivial
theorem PySem.W.Fast.tw2759917589739226689 : True := trivial
theorem PySem.W.Fast.tw6865937326786690343 : True := trivial
theorem PySem.W.Fast.tw6458321667651374332 : True := trivial
theorem PySem.W.Fast.tw14967122162982726542 : True := trivial
theorem PySem.W.Fast.tw978651005069215890 : True := trivial
theorem PySem.W.Fast.tw15951162191224075401 : True := trivial
theorem PySem.W.Fast.tw7664281209753757710 : True := trivial
theorem PySem.W.Fast.tw8649727637657738987 : True := trivial
theorem PySem.W.Fast.tw12042938752426764694 : True := trivial
theorem PySem.W.Fast.tw11315522624189118489 : True := trivial
theorem PySem.W.Fast.tw9716407995595337320 : True := trivial
theorem PySem.W.Fast.tw13576959832931424988 : True := trivial
theorem PySem.W.Fast.tw17038399510912130452 : True := trivial
theorem PySem.W.Fast.tw6044737443156992931 : True := trivial
theorem PySem.W.Fast.tw6025191309976989762 : True := trivial
theorem PySem.W.Fast.tw16661132990483096440 : True := trivial
theorem PySem.W.Fast.tw14928215253974704099 : True := trivial
theorem PySem.W.Fast.tw16128486704402212051 : True := trivial
theorem PySem.W.Fast.tw6933522357618953391 : True := trivial
theorem PySem.W.Fast.tw17303953528395694667 : True := trivial
theorem PySem.W.Fast.tw7620493721807761521 : True := trivial
theorem PySem.W.Fast.tw8359546811646859398 : True := trivial
theorem PySem.W.Fast.tw10970329568879628666 : True := trivial
theorem PySem.W.Fast.tw8106882403682018595 : True := trivial
theorem PySem.W.Fast.tw9651555658700235958 : True := trivial
theorem PySem.W.Fast.tw6004343657932879647 : True := trivial
theorem PySem.W.Fast.tw10097370195990200104 : True := trivial
theorem PySem.W.Fast.tw12575087861651519359 : True := trivial
theorem PySem.W.Fast.tw13096810589995178655 : True := trivial
theorem PySem.W.Fast.tw3397942536292260881 : True := trivial
theorem PySem.W.Fast.tw13368098096972598218 : True := trivial
theorem PySem.W.Fast.tw11342976229461180770 : True := trivial
theorem PySem.W.Fast.tw17587461424737754127 : True := trivial
theorem PySem.W.Fast.tw4560569089788744201 : True := trivial
theorem PySem.W.Fast.tw168439420309223652 : True := trivial
theorem PySem.W.Fast.tw14310840800208088042 : True := trivial
theorem PySem.W.Fast.tw18034384155423684504 : True := trivial
theorem PySem.W.Fast.tw6577578260192146711 : True := trivial
theorem PySem.W.Fast.tw4847192545194689542 : True := trivial
theorem PySem.W.Fast.tw18397750693488991730 : True := trivial
theorem PySem.W.Fast.tw17695143356732925369 : True := trivial
theorem PySem.W.Fast.tw4739718406316231016 : True := trivial
theorem PySem.W.Fast.tw1555541420278668849 : True := trivial
theorem PySem.W.Fast.tw11248496750934433033 : True := trivial
theorem PySem.W.Fast.tw13478648555920517385 : True := trivial
theorem PySem.W.Fast.tw13007551895157307748 : True := trivial
theorem PySem.W.Fast.tw3902470952432804972 : True := trivial
theorem PySem.W.Fast.tw3154782004148165504 : True := trivial
theorem PySem.W.Fast.tw17520980230022127551 : True := trivial
theorem PySem.W.Fast.tw15688687507923081488 : True := trivial
theorem PySem.W.Fast.tw5743846769182454164 : True := trivial
theorem PySem.W.Fast.tw1490957020003268842 : True := trivial
theorem PySem.W.Fast.tw18436803384785560915 : True := trivial
theorem PySem.W.Fast.tw1392867146576115069 : True := trivial
theorem PySem.W.Fast.tw643002961552368300 : True := trivial
theorem PySem.W.Fast.tw5300726393526322107 : True := trivial
theorem PySem.W.Fast.tw16664230466577414345 : True := trivial
theorem PySem.W.Fast.tw9511845583030700181 : True := trivial
theorem PySem.W.Fast.tw15315955138970288511 : True := trivial
theorem PySem.W.Fast.tw9291287073903796486 : True := trivial
theorem PySem.W.Fast.tw3474734720605666558 : True := trivial
theorem PySem.W.Fast.tw354535061296059414 : True := trivial
theorem PySem.W.Fast.tw8210086944966716648 : True := trivial
theorem PySem.W.Fast.tw2748433135613594044 : True := trivial
theorem PySem.W.Fast.tw11509755107075221036 : True := trivial
theorem PySem.W.Fast.tw5886227148722541525 : True := trivial
theorem PySem.W.Fast.tw2464491711706197681 : True := trivial
theorem PySem.W.Fast.tw3430700010780342135 : True := trivial
theorem PySem.W.Fast.tw9024263924515628651 : True := trivial
theorem PySem.W.Fast.tw1430179284049076498 : True := trivial
theorem PySem.W.Fast.tw11067877104966953375 : True := trivial
theorem PySem.W.Fast.tw718951195787844977 : True := trivial
theorem PySem.W.Fast.tw7674676873668804441 : True := trivial
theorem PySem.W.Fast.tw14535943011351081531 : True := trivial
theorem PySem.W.Fast.tw8487732110409054071 : True := trivial
theorem PySem.W.Fast.tw17290654308878294087 : True := trivial
theorem PySem.W.Fast.tw12104605891607517210 : True := trivial
theorem PySem.W.Fast.tw2195171350788958571 : True := trivial
theorem PySem.W.Fast.tw10540119602141651988 : True := trivial
theorem PySem.W.Fast.tw7359274004020050406 : True := trivial
theorem PySem.W.Fast.tw9809884750828115051 : True := trivial
theorem PySem.W.Fast.tw3770443283792849401 : True := trivial
theorem PySem.W.Fast.tw5515459289704508040 : True := trivial
theorem PySem.W.Fast.tw4976657824907461994 : True := trivial
theorem PySem.W.Fast.tw15837285457996082521 : True := trivial
theorem PySem.W.Fast.tw4358437659047624195 : True := trivial
theorem PySem.W.Fast.tw1344393840972933256 : True := trivial
theorem PySem.W.Fast.tw5374710931583571928 : True := trivial
theorem PySem.W.Fast.tw11168721868812234246 : True := trivial
theorem PySem.W.Fast.tw4233829549119455234 : True := trivial
theorem PySem.W.Fast.tw74775888355007364 : True := trivial
theorem PySem.W.Fast.tw14012955977751891322 : True := trivial
theorem PySem.W.Fast.tw10997488061651612618 : True := trivial
theorem PySem.W.Fast.tw16001070442921534170 : True := trivial
theorem PySem.W.Fast.tw7827739188101239758 : True := trivial
theorem PySem.W.Fast.tw11557621867621974018 : True := trivial
theorem PySem.W.Fast.tw13345119849357421100 : True := trivial
theorem PySem.W.Fast.tw11259574102193934549 : True := trivial
theorem PySem.W.Fast.tw9693205960070139074 : True := trivial
theorem PySem.W.Fast.tw9666058183145195036 : True := trivial
theorem PySem.W.Fast.tw6469509588142127867 : True := trivial
theorem PySem.W.Fast.tw17187368389193725192 : True := trivial
theorem PySem.W.Fast.tw14489759523448670752 : True := trivial
theorem PySem.W.Fast.tw3930262001052541840 : True := trivial
theorem PySem.W.Fast.tw2214220851469491724 : True := trivial
theorem PySem.W.Fast.tw16326472525532905963 : True := trivial
theorem PySem.W.Fast.tw8516256247686439353 : True := trivial
theorem PySem.W.Fast.tw9181108908777819115 : True := trivial
theorem PySem.W.Fast.tw3688879166973232439 : True := trivial
theorem PySem.W.Fast.tw13599609918277468577 : True := trivial
theorem PySem.W.Fast.tw7988234591958080192 : True := trivial
theorem PySem.W.Fast.tw14727782894662422854 : True := trivial
theorem PySem.W.Fast.tw5138490120209974474 : True := trivial
theorem PySem.W.Fast.tw10436185903060279697 : True := trivial
theorem PySem.W.Fast.tw17264163086863537438 : True := trivial
theorem PySem.W.Fast.tw863156742067312520 : True := trivial
theorem PySem.W.Fast.tw17811924584261591783 : True := trivial
theorem PySem.W.Fast.tw13587439767571193935 : True := trivial
theorem PySem.W.Fast.tw1835197913588260519 : True := trivial
theorem PySem.W.Fast.tw48119832522759256 : True := trivial
theorem PySem.W.Fast.tw12839559397223227750 : True := trivial
theorem PySem.W.Fast.tw17749739883271109049 : True := trivial
theorem PySem.W.Fast.tw13815326899956473294 : True := trivial
theorem PySem.W.Fast.tw6110231267337883024 : True := trivial
theorem PySem.W.Fast.tw9427334231863568777 : True := trivial
theorem PySem.W.Fast.tw12522746579056699862 : True := trivial
theorem PySem.W.Fast.tw17476376268963643192 : True := trivial
theorem PySem.W.Fast.tw14990982126626024627 : True := trivial
theorem PySem.W.Fast.tw12953581686257400995 : True := trivial
theorem PySem.W.Fast.tw18108244285378471589 : True := trivial
theorem PySem.W.Fast.tw11928328246616593042 : True := trivial
theorem PySem.W.Fast.tw15619300436171513808 : True := trivial
theorem PySem.W.Fast.tw12923562309916574387 : True := trivial
theorem PySem.W.Fast.tw7587517103233547408 : True := trivial
theorem PySem.W.Fast.tw12364295211455605789 : True := trivial
theorem PySem.W.Fast.tw5199125209455055695 : True := trivial
theorem PySem.W.Fast.tw16204026215224251739 : True := trivial
theorem PySem.W.Fast.tw4157785092836834819 : True := trivial
theorem PySem.W.Fast.tw2967129386820385305 : True := trivial
theorem PySem.W.Fast.tw3706541710827190692 : True := trivial
theorem PySem.W.Fast.tw453608982512177354 : True := trivial
theorem PySem.W.Fast.tw17948156046526602514 : True := trivial
theorem PySem.W.Fast.tw2576306352937125146 : True := trivial
theorem PySem.W.Fast.tw3113052691732130333 : True := trivial
theorem PySem.W.Fast.tw1909438606719397208 : True := trivial
theorem PySem.W.Fast.tw6660750515792971657 : True := trivial
theorem PySem.W.Fast.tw6339466124104213768 : True := trivial
theorem PySem.W.Fast.tw13032955193151762963 : True := trivial
theorem PySem.W.Fast.tw5063185870835241314 : True := trivial
theorem PySem.W.Fast.tw14417182988298340595 : True := trivial
theorem PySem.W.Fast.tw13039918613540733801 : True := trivial
theorem PySem.W.Fast.tw10589766889313984905 : True := trivial
theorem PySem.W.Fast.tw4083128440496956500 : True := trivial
theorem PySem.W.Fast.tw6255708610899597306 : True := trivial
theorem PySem.W.Fast.tw7922366567272283942 : True := trivial
theorem PySem.W.Fast.tw10440491714744804344 : True := trivial
theorem PySem.W.Fast.tw1299139575785288221 : True := trivial
theorem PySem.W.Fast.tw7467810600282820352 : True := trivial
theorem PySem.W.Fast.tw9704986648256124338 : True := trivial
theorem PySem.W.Fast.tw8167960810948382625 : True := trivial
theorem PySem.W.Fast.tw16941223708083263567 : True := trivial
theorem PySem.W.Fast.tw15184886643787026742 : True := trivial
theorem PySem.W.Fast.tw3180367587369772964 : True := trivial
theorem PySem.W.Fast.tw11326597238447319332 : True := trivial
theorem PySem.W.Fast.tw4274291845758800961 : True := trivial
theorem PySem.W.Fast.tw1398821577666233922 : True := trivial
theorem PySem.W.Fast.tw16509270329259859660 : True := trivial
theorem PySem.W.Fast.tw17627999040408146804 : True := trivial
theorem PySem.W.Fast.tw14105476354307992338 : True := trivial
theorem PySem.W.Fast.tw3311285620941986273 : True := trivial
theorem PySem.W.Fast.tw773731119485972874 : True := trivial
theorem PySem.W.Fast.tw9878036580531384392 : True := trivial
theorem PySem.W.Fast.tw7330621533752176218 : True := trivial
theorem PySem.W.Fast.tw17512657168847175175 : True := trivial
theorem PySem.W.Fast.tw10159391103086958832 : True := trivial
theorem PySem.W.Fast.tw17070097733547132254 : True := trivial
theorem PySem.W.Fast.tw7271618754074919090 : True := trivial
theorem PySem.W.Fast.tw5344972545030248186 : True := trivial
theorem PySem.W.Fast.tw5929206019891703742 : True := trivial
theorem PySem.W.Fast.tw3210550444365801955 : True := trivial
theorem PySem.W.Fast.tw5323183484907153047 : True := trivial
theorem PySem.W.Fast.tw11264963498471215397 : True := trivial
theorem PySem.W.Fast.tw1842520858006246147 : True := trivial
theorem PySem.W.Fast.tw2208364568864520005 : True := trivial
theorem PySem.W.Fast.tw16447063099387936925 : True := trivial
theorem PySem.W.Fast.tw11018761874447480679 : True := trivial
theorem PySem.W.Fast.tw4876043411157638091 : True := trivial
theorem PySem.W.Fast.tw7952887112438258620 : True := trivial
theorem PySem.W.Fast.tw15444809913513839261 : True := trivial
theorem PySem.W.Fast.tw4539818522400217415 : True := trivial
theorem PySem.W.Fast.tw4970050225831487618 : True := trivial
theorem PySem.W.Fast.tw3117417231078426974 : True := trivial
theorem PySem.W.Fast.tw13345242416038950872 : True := trivial
theorem PySem.W.Fast.tw13545403443424156666 : True := trivial
theorem PySem.W.Fast.tw15267673134437707227 : True := trivial
theorem PySem.W.Fast.tw593342813393431302 : True := trivial
theorem PySem.W.Fast.tw16734757595021499043 : True := trivial
theorem PySem.W.Fast.tw18117563406079812987 : True := trivial
theorem PySem.W.Fast.tw8972211768402045206 : True := trivial
theorem PySem.W.Fast.tw4085783176588875196 : True := trivial
theorem PySem.W.Fast.tw12252411625257289381 : True := trivial
theorem PySem.W.Fast.tw7814779746052370834 : True := trivial
theorem PySem.W.Fast.tw16199993550532682319 : True := trivial
theorem PySem.W.Fast.tw7011491979370595699 : True := trivial
theorem PySem.W.Fast.tw18087423180367240149 : True := trivial
theorem PySem.W.Fast.tw1460713977966637364 : True := trivial
theorem PySem.W.Fast.tw194172646769271501 : True := trivial
theorem PySem.W.Fast.tw13982499478756505415 : True := trivial
theorem PySem.W.Fast.tw8044116299252929941 : True := trivial
theorem PySem.W.Fast.tw17830975647938031216 : True := trivial
theorem PySem.W.Fast.tw17821409959349767369 : True := trivial
theorem PySem.W.Fast.tw2561436467151467798 : True := trivial
theorem PySem.W.Fast.tw6158675990838680978 : True := trivial
theorem PySem.W.Fast.tw5883869800607280302 : True := trivial
theorem PySem.W.Fast.tw3750885820108820106 : True := trivial
theorem PySem.W.Fast.tw14877256046240241957 : True := trivial
theorem PySem.W.Fast.tw6460217265185833300 : True := trivial
theorem PySem.W.Fast.tw12528530284901138000 : True := trivial
theorem PySem.W.Fast.tw5834205968526905394 : True := trivial
theorem PySem.W.Fast.tw17815900757964591032 : True := trivial
theorem PySem.W.Fast.tw13949692779577333507 : True := trivial
theorem PySem.W.Fast.tw11093101570220824 : True := trivial
theorem PySem.W.Fast.tw3988452493211771478 : True := trivial
theorem PySem.W.Fast.tw2402187963144548343 : True := trivial
theorem PySem.W.Fast.tw14759869005544736125 : True := trivial
theorem PySem.W.Fast.tw7009428204495441037 : True := trivial
theorem PySem.W.Fast.tw17793242239717605637 : True := trivial
theorem PySem.W.Fast.tw778764450143860322 : True := trivial
theorem PySem.W.Fast.tw12328300876391944813 : True := trivial
theorem PySem.W.Fast.tw1444334700480959004 : True := trivial
theorem PySem.W.Fast.tw2192959644266698298 : True := trivial
theorem PySem.W.Fast.tw9750013084826403104 : True := trivial
theorem PySem.W.Fast.tw14420203570686458172 : True := trivial
theorem PySem.W.Fast.tw7017297249146554180 : True := trivial
theorem PySem.W.Fast.tw4495319461150785964 : True := trivial
theorem PySem.W.Fast.tw15878191249145643885 : True := trivial
theorem PySem.W.Fast.tw16422626230375207938 : True := trivial
theorem PySem.W.Fast.tw2956899138278505947 : True := trivial
theorem PySem.W.Fast.tw14570893304406063640 : True := trivial
theorem PySem.W.Fast.tw16311103185052101395 : True := trivial
theorem PySem.W.Fast.tw13521016921806108940 : True := trivial
theorem PySem.W.Fast.tw135677826636823879 : True := trivial
theorem PySem.W.Fast.tw3990720273285727175 : True := trivial
theorem PySem.W.Fast.tw5963364838298608153 : True := trivial
theorem PySem.W.Fast.tw3546073631004179587 : True := trivial
theorem PySem.W.Fast.tw1119016571732479194 : True := trivial
theorem PySem.W.Fast.tw11855793967004199802 : True := trivial
theorem PySem.W.Fast.tw14745626478935221584 : True := trivial
theorem PySem.W.Fast.tw774091265980244690 : True := trivial
theorem PySem.W.Fast.tw1041415609784270668 : True := trivial
theorem PySem.W.Fast.tw1127434798263244992 : True := trivial
theorem PySem.W.Fast.tw15830878540177669024 : True := trivial
theorem PySem.W.Fast.tw8338348090185729328 : True := trivial
theorem PySem.W.Fast.tw17312912356198515778 : True := trivial
theorem PySem.W.Fast.tw3586406797230880355 : True := trivial
theorem PySem.W.Fast.tw1039052541350001906 : True := trivial
theorem PySem.W.Fast.tw18264533016807728252 : True := trivial
theorem PySem.W.Fast.tw10179471670083240565 : True := trivial
theorem PySem.W.Fast.tw5861471711807716621 : True := trivial
theorem PySem.W.Fast.tw8095834564165869356 : True := trivial
theorem PySem.W.Fast.tw680860299848274836 : True := trivial
theorem PySem.W.Fast.tw11804573713638784647 : True := trivial
theorem PySem.W.Fast.tw2749712217291681104 : True := trivial
theorem PySem.W.Fast.tw814241956807050471 : True := trivial
theorem PySem.W.Fast.tw5858642217416640498 : True := trivial
theorem PySem.W.Fast.tw11223039880335741784 : True := trivial
theorem PySem.W.Fast.tw17304755857159938284 : True := trivial
theorem PySem.W.Fast.tw12380495667271657132 : True := trivial
theorem PySem.W.Fast.tw16643869809172597347 : True := trivial
theorem PySem.W.Fast.tw2942562347925205418 : True := trivial
theorem PySem.W.Fast.tw1687453192952303655 : True := trivial
theorem PySem.W.Fast.tw17253366411415621044 : True := trivial
theorem PySem.W.Fast.tw17064627172101614981 : True := trivial
theorem PySem.W.Fast.tw9086130106344844634 : True := trivial
theorem PySem.W.Fast.tw1938740293924712119 : True := trivial
theorem PySem.W.Fast.tw3735098636181621723 : True := trivial
theorem PySem.W.Fast.tw9112218782482363018 : True := trivial
theorem PySem.W.Fast.tw14654754135093040927 : True := trivial
theorem PySem.W.Fast.tw320837357529470166 : True := trivial
theorem PySem.W.Fast.tw8035120119269115603 : True := trivial
theorem PySem.W.Fast.tw5374619234927089540 : True := trivial
theorem PySem.W.Fast.tw8586540912824286623 : True := trivial
theorem PySem.W.Fast.tw12814786973160816672 : True := trivial
theorem PySem.W.Fast.tw13188824172156288589 : True := trivial
theorem PySem.W.Fast.tw17989048318599519971 : True := trivial
theorem PySem.W.Fast.tw232426635017071690 : True := trivial
theorem PySem.W.Fast.tw3055273141251954258 : True := trivial
theorem PySem.W.Fast.tw13744727341080032924 : True := trivial
theorem PySem.W.Fast.tw9218278627798892489 : True := trivial
theorem PySem.W.Fast.tw15663900657095014496 : True := trivial
theorem PySem.W.Fast.tw13047376923366157118 : True := trivial
theorem PySem.W.Fast.tw6001644413062309871 : True := trivial
theorem PySem.W.Fast.tw4406532926212562435 : True := trivial
theorem PySem.W.Fast.tw9981156859946593289 : True := trivial
theorem PySem.W.Fast.tw15994303529954781772 : True := trivial
theorem PySem.W.Fast.tw8815895716864055860 : True := trivial
theorem PySem.W.Fast.tw7906186143180770383 : True := trivial
theorem PySem.W.Fast.tw14346526726822623864 : True := trivial
theorem PySem.W.Fast.tw12349260405363864587 : True := trivial
theorem PySem.W.Fast.tw16352538431304737012 : True := trivial
theorem PySem.W.Fast.tw16019066360897414171 : True := trivial
theorem PySem.W.Fast.tw16049841759186085757 : True := trivial
theorem PySem.W.Fast.tw12886172402022052066 : True := trivial
theorem PySem.W.Fast.tw1938302213407390486 : True := trivial
theorem PySem.W.Fast.tw13422059546420267123 : True := trivial
theorem PySem.W.Fast.tw5790336590704692418 : True := trivial
theorem PySem.W.Fast.tw16150115804398175241 : True := trivial
theorem PySem.W.Fast.tw8760750954935022859 : True := trivial
theorem PySem.W.Fast.tw14178657508531214057 : True := trivial
theorem PySem.W.Fast.tw4657902007364204165 : True := trivial
theorem PySem.W.Fast.tw14029506377590471699 : True := trivial
theorem PySem.W.Fast.tw13276372378925698281 : True := trivial
theorem PySem.W.Fast.tw17613824398658748083 : True := trivial
theorem PySem.W.Fast.tw935992542574193345 : True := trivial
theorem PySem.W.Fast.tw2637906343813129744 : True := trivial
theorem PySem.W.Fast.tw13185723916987784963 : True := trivial
theorem PySem.W.Fast.tw3610897807435908080 : True := trivial
theorem PySem.W.Fast.tw2799908925689739500 : True := trivial
theorem PySem.W.Fast.tw13617739847680861957 : True := trivial
theorem PySem.W.Fast.tw6766545895094136219 : True := trivial
theorem PySem.W.Fast.tw12676561021249650861 : True := trivial
theorem PySem.W.Fast.tw12901166574824499110 : True := trivial
theorem PySem.W.Fast.tw7168417013768730174 : True := trivial
theorem PySem.W.Fast.tw2288618747836479144 : True := trivial
theorem PySem.W.Fast.tw3871741759412650311 : True := trivial
theorem PySem.W.Fast.tw15671920704242594497 : True := trivial
theorem PySem.W.Fast.tw17584496790997316024 : True := trivial
theorem PySem.W.Fast.tw10875479925135571681 : True := trivial
theorem PySem.W.Fast.tw18232222796705157167 : True := trivial
theorem PySem.W.Fast.tw5936449178940006165 : True := trivial
theorem PySem.W.Fast.tw387023854305793547 : True := trivial
theorem PySem.W.Fast.tw14024088975849577763 : True := trivial
theorem PySem.W.Fast.tw4826509380763700790 : True := trivial
theorem PySem.W.Fast.tw4800695383028979466 : True := trivial
theorem PySem.W.Fast.tw15691877363570960597 : True := trivial
theorem PySem.W.Fast.tw12733028760005985378 : True := trivial
theorem PySem.W.Fast.tw6052306547325655660 : True := trivial
theorem PySem.W.Fast.tw17684573162593693734 : True := trivial
theorem PySem.W.Fast.tw13030552814702013000 : True := trivial
theorem PySem.W.Fast.tw14919756474530126338 : True := trivial
theorem PySem.W.Fast.tw4938970959885966664 : True := trivial
theorem PySem.W.Fast.tw18208818186762379687 : True := trivial
theorem PySem.W.Fast.tw7168246492601748811 : True := trivial
theorem PySem.W.Fast.tw10970286237821269165 : True := trivial
theorem PySem.W.Fast.tw14087798252159739240 : True := trivial
theorem PySem.W.Fast.tw16441510670337215047 : True := trivial
theorem PySem.W.Fast.tw6289691316808858261 : True := trivial
theorem PySem.W.Fast.tw9840661275910594643 : True := trivial
theorem PySem.W.Fast.tw6067742728446489231 : True := trivial
theorem PySem.W.Fast.tw17190604498736742324 : True := trivial
theorem PySem.W.Fast.tw12088283441725075162 : True := trivial
theorem PySem.W.Fast.tw8530872992959071578 : True := trivial
theorem PySem.W.Fast.tw7497814135204819286 : True := trivial
theorem PySem.W.Fast.tw11960112714593071300 : True := trivial
theorem PySem.W.Fast.tw14841651391927382362 : True := trivial
theorem PySem.W.Fast.tw4016550624428198445 : True := trivial
theorem PySem.W.Fast.tw1736401860059611587 : True := trivial
theorem PySem.W.Fast.tw10570618267221171840 : True := trivial
theorem PySem.W.Fast.tw971321920975951363 : True := trivial
theorem PySem.W.Fast.tw12501724928350649293 : True := trivial
theorem PySem.W.Fast.tw4879762377637069932 : True := trivial
theorem PySem.W.Fast.tw15176008064767652592 : True := trivial
theorem PySem.W.Fast.tw1105690771093943374 : True := trivial
theorem PySem.W.Fast.tw570136559871870687 : True := trivial
theorem PySem.W.Fast.tw4612647271511585270 : True := trivial
theorem PySem.W.Fast.tw47956318157822775 : True := trivial
theorem PySem.W.Fast.tw15184663501800802328 : True := trivial
theorem PySem.W.Fast.tw2637890267856604572 : True := trivial
theorem PySem.W.Fast.tw8214900649063518566 : True := trivial
theorem PySem.W.Fast.tw7308626582685200803 : True := trivial
theorem PySem.W.Fast.tw13429310524019327129 : True := trivial
theorem PySem.W.Fast.tw15231407118668464676 : True := trivial
theorem PySem.W.Fast.tw18343063900425137766 : True := trivial
theorem PySem.W.Fast.tw765624980870184157 : True := trivial
theorem PySem.W.Fast.tw6038701395205865397 : True := trivial
theorem PySem.W.Fast.tw8244992776610758621 : True := trivial
theorem PySem.W.Fast.tw11633981383769838624 : True := trivial
theorem PySem.W.Fast.tw10501196711874565377 : True := trivial
theorem PySem.W.Fast.tw13171815890436007185 : True := trivial
theorem PySem.W.Fast.tw9107433885477435833 : True := trivial
theorem PySem.W.Fast.tw17583012580287781135 : True := trivial
theorem PySem.W.Fast.tw6035634217231218151 : True := trivial
theorem PySem.W.Fast.tw12371637924564150230 : True := trivial
theorem PySem.W.Fast.tw14118711943675813771 : True := trivial
theorem PySem.W.Fast.tw12875289661006170310 : True := trivial
theorem PySem.W.Fast.tw8361685417424019001 : True := trivial
theorem PySem.W.Fast.tw3744813474822200224 : True := trivial
theorem PySem.W.Fast.tw203473460795635486 : True := trivial
theorem PySem.W.Fast.tw14230932596624886944 : True := trivial
theorem PySem.W.Fast.tw9159813420755467407 : True := trivial
theorem PySem.W.Fast.tw14251676612938244383 : True := trivial
theorem PySem.W.Fast.tw10782378095679366836 : True := trivial
theorem PySem.W.Fast.tw14559931085949251889 : True := trivial
theorem PySem.W.Fast.tw2984175881100152364 : True := trivial
theorem PySem.W.Fast.tw2982922743818603902 : True := trivial
theorem PySem.W.Fast.tw17469243976844122163 : True := trivial
theorem PySem.W.Fast.tw10590120494254378275 : True := trivial
theorem PySem.W.Fast.tw1059384129530928995 : True := trivial
theorem PySem.W.Fast.tw5453062115065049087 : True := trivial
theorem PySem.W.Fast.tw12377131114538524237 : True := trivial
theorem PySem.W.Fast.tw7703601593335348655 : True := trivial
theorem PySem.W.Fast.tw10965196766759103760 : True := trivial
theorem PySem.W.Fast.tw6590065697848540086 : True := trivial
theorem PySem.W.Fast.tw15617094244298901422 : True := trivial
theorem PySem.W.Fast.tw12397106984199634326 : True := trivial
theorem PySem.W.Fast.tw13365635966331941807 : True := trivial
theorem PySem.W.Fast.tw6476514489069157892 : True := trivial
theorem PySem.W.Fast.tw10429023260853570661 : True := trivial
theorem PySem.W.Fast.tw9867314142996778731 : True := trivial
theorem PySem.W.Fast.tw5400355274964251048 : True := trivial
theorem PySem.W.Fast.tw743759778779744801 : True := trivial
theorem PySem.W.Fast.tw17188781438822619507 : True := trivial
theorem PySem.W.Fast.tw978082898913054870 : True := trivial
theorem PySem.W.Fast.tw6562638244274402281 : True := trivial
theorem PySem.W.Fast.tw14374334336984679934 : True := trivial
theorem PySem.W.Fast.tw14566495012689399957 : True := trivial
theorem PySem.W.Fast.tw6182528436250659223 : True := trivial
theorem PySem.W.Fast.tw7497995638953299144 : True := trivial
theorem PySem.W.Fast.tw15635632627504934394 : True := trivial
theorem PySem.W.Fast.tw5073773168075059414 : True := trivial
theorem PySem.W.Fast.tw10116261823397076679 : True := trivial
theorem PySem.W.Fast.tw2745598575763971801 : True := trivial
theorem PySem.W.Fast.tw13377344964035707648 : True := trivial
theorem PySem.W.Fast.tw12406824070594770548 : True := trivial
theorem PySem.W.Fast.tw16209317213570500224 : True := trivial
theorem PySem.W.Fast.tw15379136539557400787 : True := trivial
theorem PySem.W.Fast.tw13299066960118376545 : True := trivial
theorem PySem.W.Fast.tw10976116504641213494 : True := trivial
theorem PySem.W.Fast.tw9868903312454842208 : True := trivial
theorem PySem.W.Fast.tw5405734686761560864 : True := trivial
theorem PySem.W.Fast.tw14555596591370428942 : True := trivial
theorem PySem.W.Fast.tw16529796544183903635 : True := trivial
theorem PySem.W.Fast.tw11884914673008034682 : True := trivial
theorem PySem.W.Fast.tw16444196104879901165 : True := trivial
theorem PySem.W.Fast.tw6984577274705263236 : True := trivial
theorem PySem.W.Fast.tw8236110439324283357 : True := trivial
theorem PySem.W.Fast.tw16208791513639480561 : True := trivial
theorem PySem.W.Fast.tw15430977543006821594 : True := trivial
theorem PySem.W.Fast.tw15432267024463596787 : True := trivial
theorem PySem.W.Fast.tw1988764823390963539 : True := trivial
theorem PySem.W.Fast.tw8312874654682778582 : True := trivial
theorem PySem.W.Fast.tw15004988243739684767 : True := trivial
theorem PySem.W.Fast.tw1756537695427100923 : True := trivial
theorem PySem.W.Fast.tw3696723660341635647 : True := trivial
theorem PySem.W.Fast.tw14566266824065009671 : True := trivial
theorem PySem.W.Fast.tw2872174171181082842 : True := trivial
theorem PySem.W.Fast.tw2160235611881587895 : True := trivial
theorem PySem.W.Fast.tw798952419147782479 : True := trivial
theorem PySem.W.Fast.tw17855682883119702265 : True := trivial
theorem PySem.W.Fast.tw6657672000477408357 : True := trivial
theorem PySem.W.Fast.tw11721021199786607225 : True := trivial
theorem PySem.W.Fast.tw14127525190813253288 : True := trivial
theorem PySem.W.Fast.tw7707606471986161460 : True := trivial
theorem PySem.W.Fast.tw11468531059806571901 : True := trivial
theorem PySem.W.Fast.tw7226518712704600042 : True := trivial
theorem PySem.W.Fast.tw5286042272819740626 : True := trivial
theorem PySem.W.Fast.tw12118041938222654787 : True := trivial
theorem PySem.W.Fast.tw7618703429648100733 : True := trivial
theorem PySem.W.Fast.tw15094780099184489947 : True := trivial
theorem PySem.W.Fast.tw12467573454083892365 : True := trivial
theorem PySem.W.Fast.tw5184144834418129292 : True := trivial
theorem PySem.W.Fast.tw17203374146221360697 : True := trivial
theorem PySem.W.Fast.tw15924602132528713073 : True := trivial
theorem PySem.W.Fast.tw14775820632188698378 : True := trivial
theorem PySem.W.Fast.tw1408788866496916695 : True := trivial
theorem PySem.W.Fast.tw4753198660533282878 : True := trivial
theorem PySem.W.Fast.tw12120429422336811542 : True := trivial
theorem PySem.W.Fast.tw13189705450855104997 : True := trivial
theorem PySem.W.Fast.tw13442438097546019948 : True := trivial
theorem PySem.W.Fast.tw4627766117587264776 : True := trivial
theorem PySem.W.Fast.tw10312464173523760569 : True := trivial
theorem PySem.W.Fast.tw2487943103734507037 : True := trivial
theorem PySem.W.Fast.tw17678996582536372570 : True := trivial
theorem PySem.W.Fast.tw4821005204643581071 : True := trivial
theorem PySem.W.Fast.tw15157715320879080673 : True := trivial
theorem PySem.W.Fast.tw9999683367623253569 : True := trivial
theorem PySem.W.Fast.tw13615933887066585679 : True := trivial
theorem PySem.W.Fast.tw9227086480355852878 : True := trivial
theorem PySem.W.Fast.tw1439579602754765618 : True := trivial
theorem PySem.W.Fast.tw14906357571858659208 : True := trivial
theorem PySem.W.Fast.tw15917840451939432192 : True := trivial
theorem PySem.W.Fast.tw11092219306664095989 : True := trivial
theorem PySem.W.Fast.tw18310096936062309680 : True := trivial
theorem PySem.W.Fast.tw5934166800258322353 : True := trivial
theorem PySem.W.Fast.tw17713386590632138347 : True := trivial
theorem PySem.W.Fast.tw9082402069356771464 : True := trivial
theorem PySem.W.Fast.tw9601912459033126440 : True := trivial
theorem PySem.W.Fast.tw2231729077162449378 : True := trivial
theorem PySem.W.Fast.tw11027037489101554922 : True := trivial
theorem PySem.W.Fast.tw14744187804339969849 : True := trivial
theorem PySem.W.Fast.tw8321416796686136205 : True := trivial
theorem PySem.W.Fast.tw15402751452760172556 : True := trivial
theorem PySem.W.Fast.tw2759806181000754108 : True := trivial
theorem PySem.W.Fast.tw4744629759124816271 : True := trivial
theorem PySem.W.Fast.tw16568793440111948496 : True := trivial
theorem PySem.W.Fast.tw7753242340637201966 : True := trivial
theorem PySem.W.Fast.tw8159981142340159840 : True := trivial
theorem PySem.W.Fast.tw4523085216775509018 : True := trivial
theorem PySem.W.Fast.tw1278270054567733397 : True := trivial
theorem PySem.W.Fast.tw16722595416667639647 : True := trivial
theorem PySem.W.Fast.tw3077735625893466103 : True := trivial
theorem PySem.W.Fast.tw6814961851065969003 : True := trivial
theorem PySem.W.Fast.tw12195470586211657054 : True := trivial
theorem PySem.W.Fast.tw3366515821642557931 : True := trivial
theorem PySem.W.Fast.tw6002550850252257952 : True := trivial
theorem PySem.W.Fast.tw16676936635987632126 : True := trivial
theorem PySem.W.Fast.tw16986523073477734040 : True := trivial
theorem PySem.W.Fast.tw7554453147007102451 : True := trivial
theorem PySem.W.Fast.tw12514439652537889761 : True := trivial
theorem PySem.W.Fast.tw2048143021583785974 : True := trivial
theorem PySem.W.Fast.tw9707536333759925401 : True := trivial
theorem PySem.W.Fast.tw12903110839823302884 : True := trivial
theorem PySem.W.Fast.tw3462482230720551277 : True := trivial
theorem PySem.W.Fast.tw10967773752826104464 : True := trivial
theorem PySem.W.Fast.tw12978514785390101309 : True := trivial
theorem PySem.W.Fast.tw8655342438617532712 : True := trivial
theorem PySem.W.Fast.tw16632270018209882496 : True := trivial
theorem PySem.W.Fast.tw4646521132370788229 : True := trivial
theorem PySem.W.Fast.tw567856616056596464 : True := trivial
theorem PySem.W.Fast.tw11602701320630387199 : True := trivial
theorem PySem.W.Fast.tw370514636376707557 : True := trivial
theorem PySem.W.Fast.tw3398922117286950785 : True := trivial
theorem PySem.W.Fast.tw6891720733934291477 : True := trivial
theorem PySem.W.Fast.tw15951782670251949834 : True := trivial
theorem PySem.W.Fast.tw2134994958257522870 : True := trivial
theorem PySem.W.Fast.tw15228732437396852527 : True := trivial
theorem PySem.W.Fast.tw580811994817926334 : True := trivial
theorem PySem.W.Fast.tw15679092527737187179 : True := trivial
theorem PySem.W.Fast.tw10578410529156061113 : True := trivial
theorem PySem.W.Fast.tw7111658303604733736 : True := trivial
theorem PySem.W.Fast.tw16116712076462497873 : True := trivial
theorem PySem.W.Fast.tw1457097127897551 : True := trivial
theorem PySem.W.Fast.tw7246051431189508904 : True := trivial
theorem PySem.W.Fast.tw8868316498543807278 : True := trivial
theorem PySem.W.Fast.tw17096687663780481985 : True := trivial
theorem PySem.W.Fast.tw16370643028550615480 : True := trivial
theorem PySem.W.Fast.tw2000270341313885008 : True := trivial
theorem PySem.W.Fast.tw14455690976693545351 : True := trivial
theorem PySem.W.Fast.tw10080652266365476278 : True := trivial
theorem PySem.W.Fast.tw5062946486428366296 : True := trivial
theorem PySem.W.Fast.tw3971529966135079978 : True := trivial
theorem PySem.W.Fast.tw2732420213312555205 : True := trivial
theorem PySem.W.Fast.tw13817717932780589081 : True := trivial
theorem PySem.W.Fast.tw17547929746736240654 : True := trivial
theorem PySem.W.Fast.tw16676666222178296524 : True := trivial
theorem PySem.W.Fast.tw2095627471209890441 : True := trivial
theorem PySem.W.Fast.tw8495810699782085439 : True := trivial
theorem PySem.W.Fast.tw13284571020486998962 : True := trivial
theorem PySem.W.Fast.tw7528747863738788163 : True := trivial
theorem PySem.W.Fast.tw30461315523057793 : True := trivial
theorem PySem.W.Fast.tw15311077947831672977 : True := trivial
theorem PySem.W.Fast.tw13612911960487921311 : True := trivial
theorem PySem.W.Fast.tw16706942761483416297 : True := trivial
theorem PySem.W.Fast.tw17611284204395582169 : True := trivial
theorem PySem.W.Fast.tw3461374404434026641 : True := trivial
theorem PySem.W.Fast.tw14586410452717164585 : True := trivial
theorem PySem.W.Fast.tw18404108896412671485 : True := trivial
theorem PySem.W.Fast.tw10580089456601119281 : True := trivial
theorem PySem.W.Fast.tw6089794843958462076 : True := trivial
theorem PySem.W.Fast.tw5386362979120223899 : True := trivial
theorem PySem.W.Fast.tw7219384170489357718 : True := trivial
theorem PySem.W.Fast.tw2948725338886668567 : True := trivial
theorem PySem.W.Fast.tw11185598979118581480 : True := trivial
theorem PySem.W.Fast.tw2819267743765991154 : True := trivial
theorem PySem.W.Fast.tw10056447783669013231 : True := trivial
theorem PySem.W.Fast.tw11861409995231901675 : True := trivial
theorem PySem.W.Fast.tw7582295964598722874 : True := trivial
theorem PySem.W.Fast.tw14705200808745162548 : True := trivial
theorem PySem.W.Fast.tw20678194991823372 : True := trivial
theorem PySem.W.Fast.tw6456197915992299979 : True := trivial
theorem PySem.W.Fast.tw12921202086758234131 : True := trivial
theorem PySem.W.Fast.tw3342708021720887155 : True := trivial
theorem PySem.W.Fast.tw453984246432864559 : True := trivial
theorem PySem.W.Fast.tw2309338116905980319 : True := trivial
theorem PySem.W.Fast.tw15750784005498840008 : True := trivial
theorem PySem.W.Fast.tw17480317832062205491 : True := trivial
theorem PySem.W.Fast.tw9874724386993544321 : True := trivial
theorem PySem.W.Fast.tw3436200207281168157 : True := trivial
theorem PySem.W.Fast.tw11447980895501578037 : True := trivial
theorem PySem.W.Fast.tw13020695741991611533 : True := trivial
theorem PySem.W.Fast.tw4775433072961092483 : True := trivial
theorem PySem.W.Fast.tw1360321914873207266 : True := trivial
theorem PySem.W.Fast.tw11590170708741045597 : True := trivial
theorem PySem.W.Fast.tw11320353952666021650 : True := trivial
theorem PySem.W.Fast.tw14634871799440659811 : True := trivial
theorem PySem.W.Fast.tw214357188927017257 : True := trivial
theorem PySem.W.Fast.tw6135392896570240378 : True := trivial
theorem PySem.W.Fast.tw17242109909894159545 : True := trivial
theorem PySem.W.Fast.tw918177163805850568 : True := trivial
theorem PySem.W.Fast.tw1278972452459120194 : True := trivial
theorem PySem.W.Fast.tw9398736957650090830 : True := trivial
theorem PySem.W.Fast.tw5176408016499941258 : True := trivial
theorem PySem.W.Fast.tw4445916894034346797 : True := trivial
theorem PySem.W.Fast.tw12454515122936222668 : True := trivial
theorem PySem.W.Fast.tw15085028838133829449 : True := trivial
theorem PySem.W.Fast.tw9447961926681617211 : True := trivial
theorem PySem.W.Fast.tw3507616417869527616 : True := trivial
theorem PySem.W.Fast.tw4867086605861408052 : True := trivial
theorem PySem.W.Fast.tw3217419715238122806 : True := trivial
theorem PySem.W.Fast.tw13135411816959572082 : True := trivial
theorem PySem.W.Fast.tw16176605667814865666 : True := trivial
theorem PySem.W.Fast.tw2011027274771271410 : True := trivial
theorem PySem.W.Fast.tw1171878312224936347 : True := trivial
theorem PySem.W.Fast.tw5525658084479431668 : True := trivial
theorem PySem.W.Fast.tw6112369788556053099 : True := trivial
theorem PySem.W.Fast.tw12855832147904490193 : True := trivial
theorem PySem.W.Fast.tw5185550216214787622 : True := trivial
theorem PySem.W.Fast.tw7377560997832468117 : True := trivial
theorem PySem.W.Fast.tw3412062996799100426 : True := trivial
theorem PySem.W.Fast.tw13350958941510111898 : True := trivial
theorem PySem.W.Fast.tw14224889191237057909 : True := trivial
theorem PySem.W.Fast.tw14773768967400092388 : True := trivial
theorem PySem.W.Fast.tw9592535481578962528 : True := trivial
theorem PySem.W.Fast.tw15674377345807694977 : True := trivial
theorem PySem.W.Fast.tw1660288348873173751 : True := trivial
theorem PySem.W.Fast.tw12484806509615239630 : True := trivial
theorem PySem.W.Fast.tw3931499103725674061 : True := trivial
theorem PySem.W.Fast.tw16977637174531296075 : True := trivial
theorem PySem.W.Fast.tw10239280358029424285 : True := trivial
theorem PySem.W.Fast.tw14941754672170015976 : True := trivial
theorem PySem.W.Fast.tw2224124770594269831 : True := trivial
theorem PySem.W.Fast.tw1793735412971378480 : True := trivial
theorem PySem.W.Fast.tw8724445726648881625 : True := trivial
theorem PySem.W.Fast.tw1840604696248373045 : True := trivial
theorem PySem.W.Fast.tw15507686759992377858 : True := trivial
theorem PySem.W.Fast.tw4758363078591338197 : True := trivial
theorem PySem.W.Fast.tw13999927222463203644 : True := trivial
theorem PySem.W.Fast.tw12882510603663645147 : True := trivial
theorem PySem.W.Fast.tw7723925833378024837 : True := trivial
theorem PySem.W.Fast.tw4541745754533256331 : True := trivial
theorem PySem.W.Fast.tw9464769570855510324 : True := trivial
theorem PySem.W.Fast.tw962720419430791639 : True := trivial
theorem PySem.W.Fast.tw3345144703096705159 : True := trivial
theorem PySem.W.Fast.tw14783882816847949629 : True := trivial
theorem PySem.W.Fast.tw2661591180665809348 : True := trivial
theorem PySem.W.Fast.tw7175145021995803768 : True := trivial
theorem PySem.W.Fast.tw7183186762154247341 : True := trivial
theorem PySem.W.Fast.tw3430588650706161714 : True := trivial
theorem PySem.W.Fast.tw17197146123446632521 : True := trivial
theorem PySem.W.Fast.tw4755301348031922510 : True := trivial
theorem PySem.W.Fast.tw10769452611444449090 : True := trivial
theorem PySem.W.Fast.tw17557096510920368259 : True := trivial
theorem PySem.W.Fast.tw6348494352117618143 : True := trivial
theorem PySem.W.Fast.tw13886755063338197083 : True := trivial
theorem PySem.W.Fast.tw12916540982794786914 : True := trivial
theorem PySem.W.Fast.tw14442142647194248337 : True := trivial
theorem PySem.W.Fast.tw7109247855073430683 : True := trivial
theorem PySem.W.Fast.tw12142913304005173726 : True := trivial
theorem PySem.W.Fast.tw9818532171777989846 : True := trivial
theorem PySem.W.Fast.tw17371250769167335001 : True := trivial
theorem PySem.W.Fast.tw18150717514586312623 : True := trivial
theorem PySem.W.Fast.tw17488785968456524507 : True := trivial
theorem PySem.W.Fast.tw5866932759717942646 : True := trivial
theorem PySem.W.Fast.tw12842827429004530152 : True := trivial
theorem PySem.W.Fast.tw2229588971061513944 : True := trivial
theorem PySem.W.Fast.tw10796653701199772078 : True := trivial
theorem PySem.W.Fast.tw549565396689299071 : True := trivial
theorem PySem.W.Fast.tw8567788370138327455 : True := trivial
theorem PySem.W.Fast.tw9291437472768175492 : True := trivial
theorem PySem.W.Fast.tw4065989300807081378 : True := trivial
theorem PySem.W.Fast.tw15304803110199014715 : True := trivial
theorem PySem.W.Fast.tw9519157950076882507 : True := trivial
theorem PySem.W.Fast.tw6869957563084506417 : True := trivial
theorem PySem.W.Fast.tw15693252345906944369 : True := trivial
theorem PySem.W.Fast.tw10144741620686487896 : True := trivial
theorem PySem.W.Fast.tw12207585145072308281 : True := trivial
theorem PySem.W.Fast.tw12358077577174189768 : True := trivial
theorem PySem.W.Fast.tw15133007436134172917 : True := trivial
theorem PySem.W.Fast.tw10722509071313004532 : True := trivial
theorem PySem.W.Fast.tw5661322278820780781 : True := trivial
theorem PySem.W.Fast.tw17765394070176827379 : True := trivial
theorem PySem.W.Fast.tw5202816555692098388 : True := trivial
theorem PySem.W.Fast.tw1293202155096278765 : True := trivial
theorem PySem.W.Fast.tw11298025414578008549 : True := trivial
theorem PySem.W.Fast.tw7236053153920848762 : True := trivial
theorem PySem.W.Fast.tw394752964324809390 : True := trivial
theorem PySem.W.Fast.tw3758284283974629278 : True := trivial
theorem PySem.W.Fast.tw12308564690591690998 : True := trivial
theorem PySem.W.Fast.tw15663259473320993867 : True := trivial
theorem PySem.W.Fast.tw3693757982080632432 : True := trivial
theorem PySem.W.Fast.tw18396841785122796254 : True := trivial
theorem PySem.W.Fast.tw3990351492793689498 : True := trivial
theorem PySem.W.Fast.tw13617903997881706178 : True := trivial
theorem PySem.W.Fast.tw4108621083650401011 : True := trivial
theorem PySem.W.Fast.tw10458225126048581040 : True := trivial
theorem PySem.W.Fast.tw3694074048651535697 : True := trivial
theorem PySem.W.Fast.tw10834927625803870548 : True := trivial
theorem PySem.W.Fast.tw11531844118585731755 : True := trivial
theorem PySem.W.Fast.tw4884748293287926423 : True := trivial
theorem PySem.W.Fast.tw13877143680925435828 : True := trivial
theorem PySem.W.Fast.tw14146523022967790662 : True := trivial
theorem PySem.W.Fast.tw13642984581425833851 : True := trivial
theorem PySem.W.Fast.tw15728516614907752989 : True := trivial
theorem PySem.W.Fast.tw18156648388253471952 : True := trivial
theorem PySem.W.Fast.tw7649421518211335784 : True := trivial
theorem PySem.W.Fast.tw16801855094142325654 : True := trivial
theorem PySem.W.Fast.tw4421970910413568684 : True := trivial
theorem PySem.W.Fast.tw6901766260013081633 : True := trivial
theorem PySem.W.Fast.tw12876444666901477870 : True := trivial
theorem PySem.W.Fast.tw16383413551460152178 : True := trivial
theorem PySem.W.Fast.tw17973515070977439877 : True := trivial
theorem PySem.W.Fast.tw492042918911450863 : True := trivial
theorem PySem.W.Fast.tw10380234282131006746 : True := trivial
theorem PySem.W.Fast.tw3574710579140896443 : True := trivial
theorem PySem.W.Fast.tw10990591105383014104 : True := trivial
theorem PySem.W.Fast.tw14932661503715832534 : True := trivial
theorem PySem.W.Fast.tw2676223464446933659 : True := trivial
theorem PySem.W.Fast.tw11935059541273359319 : True := trivial
theorem PySem.W.Fast.tw8549067920023003215 : True := trivial
theorem PySem.W.Fast.tw4267618044633484949 : True := trivial
theorem PySem.W.Fast.tw15546355629058754486 : True := trivial
theorem PySem.W.Fast.tw10964728906747789953 : True := trivial
theorem PySem.W.Fast.tw13944496295846989040 : True := trivial
theorem PySem.W.Fast.tw16676648663107246195 : True := trivial
theorem PySem.W.Fast.tw1990845783025470732 : True := trivial
theorem PySem.W.Fast.tw4516078466745320616 : True := trivial
theorem PySem.W.Fast.tw3530868808148338131 : True := trivial
theorem PySem.W.Fast.tw2957386766195474346 : True := trivial
theorem PySem.W.Fast.tw11583064902810476151 : True := trivial
theorem PySem.W.Fast.tw3669290298352313194 : True := trivial
theorem PySem.W.Fast.tw7235233340248626895 : True := trivial
theorem PySem.W.Fast.tw3020539442145835695 : True := trivial
theorem PySem.W.Fast.tw2011624629963326963 : True := trivial
theorem PySem.W.Fast.tw15826348687179720076 : True := trivial
theorem PySem.W.Fast.tw16403594268451226017 : True := trivial
theorem PySem.W.Fast.tw7370794431475929506 : True := trivial
theorem PySem.W.Fast.tw4548630293430141134 : True := trivial
theorem PySem.W.Fast.tw12262862561614533266 : True := trivial
theorem PySem.W.Fast.tw16675104604879320194 : True := trivial
theorem PySem.W.Fast.tw5170071774856912119 : True := trivial
theorem PySem.W.Fast.tw8143049308625596345 : True := trivial
theorem PySem.W.Fast.tw9277168318419518849 : True := trivial
theorem PySem.W.Fast.tw7153022386673617134 : True := trivial
theorem PySem.W.Fast.tw7341334917664388921 : True := trivial
theorem PySem.W.Fast.tw14949506319342002741 : True := trivial
theorem PySem.W.Fast.tw14135353771779267867 : True := trivial
theorem PySem.W.Fast.tw4417559239192492891 : True := trivial
theorem PySem.W.Fast.tw15508346187578031387 : True := trivial
theorem PySem.W.Fast.tw3833516037258651680 : True := trivial
theorem PySem.W.Fast.tw8381819107640474079 : True := trivial
theorem PySem.W.Fast.tw2027995076082851269 : True := trivial
theorem PySem.W.Fast.tw7880944343253548282 : True := trivial
theorem PySem.W.Fast.tw17233599796534667219 : True := trivial
theorem PySem.W.Fast.tw7240457767105476885 : True := trivial
theorem PySem.W.Fast.tw14049218043038358232 : True := trivial
theorem PySem.W.Fast.tw16307859995245857509 : True := trivial
theorem PySem.W.Fast.tw13121688578763692525 : True := trivial
theorem PySem.W.Fast.tw526791380178470417 : True := trivial
theorem PySem.W.Fast.tw8213543388375626862 : True := trivial
theorem PySem.W.Fast.tw6665305430973420077 : True := trivial
theorem PySem.W.Fast.tw7491919077107800243 : True := trivial
theorem PySem.W.Fast.tw2895140471894972869 : True := trivial
theorem PySem.W.Fast.tw18225610220505429169 : True := trivial
theorem PySem.W.Fast.tw13087047942087417454 : True := trivial
theorem PySem.W.Fast.tw10950644640817599614 : True := trivial
theorem PySem.W.Fast.tw244197856270659883 : True := trivial
theorem PySem.W.Fast.tw16511071868266479567 : True := trivial
theorem PySem.W.Fast.tw11322486515264475628 : True := trivial
theorem PySem.W.Fast.tw1593796794357275345 : True := trivial
theorem PySem.W.Fast.tw4482038839262279189 : True := trivial
theorem PySem.W.Fast.tw17822986573050281609 : True := trivial
theorem PySem.W.Fast.tw505350194952607534 : True := trivial
theorem PySem.W.Fast.tw10507797845820275468 : True := trivial
theorem PySem.W.Fast.tw401616188904550158 : True := trivial
theorem PySem.W.Fast.tw2754235955998153126 : True := trivial
theorem PySem.W.Fast.tw5258682212248537577 : True := trivial
theorem PySem.W.Fast.tw17998812609810839318 : True := trivial
theorem PySem.W.Fast.tw2929105774181652817 : True := trivial
theorem PySem.W.Fast.tw16099196034733095314 : True := trivial
theorem PySem.W.Fast.tw7322366984971317280 : True := trivial
theorem PySem.W.Fast.tw8611650915406857314 : True := trivial
theorem PySem.W.Fast.tw18355842713433751699 : True := trivial
theorem PySem.W.Fast.tw6249151348724928324 : True := trivial
theorem PySem.W.Fast.tw8726456716064368069 : True := trivial
theorem PySem.W.Fast.tw5355645239843096583 : True := trivial
theorem PySem.W.Fast.tw5915585181558200731 : True := trivial
theorem PySem.W.Fast.tw2347693852108050999 : True := trivial
theorem PySem.W.Fast.tw17852755255337660069 : True := trivial
theorem PySem.W.Fast.tw10557224573538685379 : True := trivial
theorem PySem.W.Fast.tw9789137051124944037 : True := trivial
theorem PySem.W.Fast.tw6926164337835780305 : True := trivial
theorem PySem.W.Fast.tw6475868273964559620 : True := trivial
theorem PySem.W.Fast.tw3604754390374475585 : True := trivial
theorem PySem.W.Fast.tw5529602101948834688 : True := trivial
theorem PySem.W.Fast.tw15904361458072554106 : True := trivial
theorem PySem.W.Fast.tw6556304865943732563 : True := trivial
theorem PySem.W.Fast.tw17090727546485821721 : True := trivial
theorem PySem.W.Fast.tw15953844086262060308 : True := trivial
theorem PySem.W.Fast.tw12554858615630603033 : True := trivial
theorem PySem.W.Fast.tw5971758991273606120 : True := trivial
theorem PySem.W.Fast.tw16379717206974126940 : True := trivial
theorem PySem.W.Fast.tw4266749195698487894 : True := trivial
theorem PySem.W.Fast.tw1170643008026812900 : True := trivial
theorem PySem.W.Fast.tw14384811260371999003 : True := trivial
theorem PySem.W.Fast.tw5254831699462310273 : True := trivial
theorem PySem.W.Fast.tw12040249186169717585 : True := trivial
theorem PySem.W.Fast.tw2496275533001985267 : True := trivial
theorem PySem.W.Fast.tw14913065465165944547 : True := trivial
theorem PySem.W.Fast.tw10755165781012587347 : True := trivial
theorem PySem.W.Fast.tw1128976247325473411 : True := trivial
theorem PySem.W.Fast.tw16548378331542860758 : True := trivial
theorem PySem.W.Fast.tw4043321501110246920 : True := trivial
theorem PySem.W.Fast.tw14837733145687029428 : True := trivial
theorem PySem.W.Fast.tw1756997678975648151 : True := trivial
theorem PySem.W.Fast.tw16689697077312021098 : True := trivial
theorem PySem.W.Fast.tw14774046973584549732 : True := trivial
theorem PySem.W.Fast.tw11598717798591586907 : True := trivial
theorem PySem.W.Fast.tw14851470359898344685 : True := trivial
theorem PySem.W.Fast.tw6226812128832109527 : True := trivial
theorem PySem.W.Fast.tw7278024453038954755 : True := trivial
theorem PySem.W.Fast.tw1424869369303004873 : True := trivial
theorem PySem.W.Fast.tw12333926283320189078 : True := trivial
theorem PySem.W.Fast.tw8725752312582787823 : True := trivial
theorem PySem.W.Fast.tw15806920659803866936 : True := trivial
theorem PySem.W.Fast.tw961134937348320700 : True := trivial
theorem PySem.W.Fast.tw497130424708185695 : True := trivial
theorem PySem.W.Fast.tw15053717468705607887 : True := trivial
theorem PySem.W.Fast.tw2218849380791522312 : True := trivial
theorem PySem.W.Fast.tw3907022373087086710 : True := trivial
theorem PySem.W.Fast.tw6791577234118986694 : True := trivial
theorem PySem.W.Fast.tw10674721677847974218 : True := trivial
theorem PySem.W.Fast.tw13749252255274706586 : True := trivial
theorem PySem.W.Fast.tw4930571657409818487 : True := trivial
theorem PySem.W.Fast.tw11850880080088406250 : True := trivial
theorem PySem.W.Fast.tw12197269447687734711 : True := trivial
theorem PySem.W.Fast.tw9312123733597153115 : True := trivial
theorem PySem.W.Fast.tw2298804387671806312 : True := trivial
theorem PySem.W.Fast.tw2932800177396055433 : True := trivial
theorem PySem.W.Fast.tw14222460850601754241 : True := trivial
theorem PySem.W.Fast.tw633257547453096432 : True := trivial
theorem PySem.W.Fast.tw3594613190650073145 : True := trivial
theorem PySem.W.Fast.tw17696183522281781862 : True := trivial
theorem PySem.W.Fast.tw18089662021333767431 : True := trivial
theorem PySem.W.Fast.tw17946646703088376707 : True := trivial
theorem PySem.W.Fast.tw2141991817279458805 : True := trivial
theorem PySem.W.Fast.tw1178819800650190045 : True := trivial
theorem PySem.W.Fast.tw16534308561024843510 : True := trivial
theorem PySem.W.Fast.tw13724897173663948842 : True := trivial
theorem PySem.W.Fast.tw17008582309254580736 : True := trivial
theorem PySem.W.Fast.tw15735881531409467921 : True := trivial
theorem PySem.W.Fast.tw13812948330187706549 : True := trivial
theorem PySem.W.Fast.tw5541900442163175947 : True := trivial
theorem PySem.W.Fast.tw6940852897725576425 : True := trivial
theorem PySem.W.Fast.tw15227228376806944782 : True := trivial
theorem PySem.W.Fast.tw188706840435091442 : True := trivial
theorem PySem.W.Fast.tw3359776745418206265 : True := trivial
theorem PySem.W.Fast.tw17320819061113403287 : True := trivial
theorem PySem.W.Fast.tw540701570070257700 : True := trivial
theorem PySem.W.Fast.tw12234229469173131118 : True := trivial
theorem PySem.W.Fast.tw6729463069704777861 : True := trivial
theorem PySem.W.Fast.tw6064866548128434744 : True := trivial
theorem PySem.W.Fast.tw5480272819876965420 : True := trivial
theorem PySem.W.Fast.tw12160108380671895293 : True := trivial
theorem PySem.W.Fast.tw13146367551614457001 : True := trivial
theorem PySem.W.Fast.tw16365205287483783797 : True := trivial
theorem PySem.W.Fast.tw10169415893942899640 : True := trivial
theorem PySem.W.Fast.tw5436714980427768959 : True := trivial
theorem PySem.W.Fast.tw13781718653325154081 : True := trivial
theorem PySem.W.Fast.tw10102374759918619414 : True := trivial
theorem PySem.W.Fast.tw13353522152471691276 : True := trivial
theorem PySem.W.Fast.tw17321778628636082977 : True := trivial
theorem PySem.W.Fast.tw16684727719411202250 : True := trivial
theorem PySem.W.Fast.tw16583496878749862195 : True := trivial
theorem PySem.W.Fast.tw10708120386183919787 : True := trivial
theorem PySem.W.Fast.tw2602855487471192863 : True := trivial
theorem PySem.W.Fast.tw16469469389652007668 : True := trivial
theorem PySem.W.Fast.tw14878695552156520918 : True := trivial
theorem PySem.W.Fast.tw15178303785778544059 : True := trivial
theorem PySem.W.Fast.tw7931424015663564535 : True := trivial
theorem PySem.W.Fast.tw8451010428620820869 : True := trivial
theorem PySem.W.Fast.tw1197180624357460553 : True := trivial
theorem PySem.W.Fast.tw15252723060876546673 : True := trivial
theorem PySem.W.Fast.tw12196959882723691387 : True := trivial
theorem PySem.W.Fast.tw17683768605330891235 : True := trivial
theorem PySem.W.Fast.tw15594430099714563895 : True := trivial
theorem PySem.W.Fast.tw3324698676449839101 : True := trivial
theorem PySem.W.Fast.tw16824817918600245181 : True := trivial
theorem PySem.W.Fast.tw1218904914072902750 : True := trivial
theorem PySem.W.Fast.tw8652100185546810328 : True := trivial
theorem PySem.W.Fast.tw8537957272841389746 : True := trivial
theorem PySem.W.Fast.tw14207350363074219203 : True := trivial
theorem PySem.W.Fast.tw10032050119546846462 : True := trivial
theorem PySem.W.Fast.tw5706729065446770393 : True := trivial
theorem PySem.W.Fast.tw3221382481485079267 : True := trivial
theorem PySem.W.Fast.tw5661901551399966105 : True := trivial
theorem PySem.W.Fast.tw14190631365896012447 : True := trivial
theorem PySem.W.Fast.tw13015778346990493727 : True := trivial
theorem PySem.W.Fast.tw7029959431679658655 : True := trivial
theorem PySem.W.Fast.tw13760175327242702050 : True := trivial
theorem PySem.W.Fast.tw2739493719790486659 : True := trivial
theorem PySem.W.Fast.tw16508059341483216046 : True := trivial
theorem PySem.W.Fast.tw601172277400146076 : True := trivial
theorem PySem.W.Fast.tw15633665384241179374 : True := trivial
theorem PySem.W.Fast.tw14078152852427802356 : True := trivial
theorem PySem.W.Fast.tw14132532430791844740 : True := trivial
theorem PySem.W.Fast.tw13868617091793032968 : True := trivial
theorem PySem.W.Fast.tw10403259287016403405 : True := trivial
theorem PySem.W.Fast.tw9923780347060138296 : True := trivial
theorem PySem.W.Fast.tw14139845802879451877 : True := trivial
theorem PySem.W.Fast.tw7166125692539687396 : True := trivial
theorem PySem.W.Fast.tw4034610987620640096 : True := trivial
theorem PySem.W.Fast.tw7162782325848082633 : True := trivial
theorem PySem.W.Fast.tw6734735310190731815 : True := trivial
theorem PySem.W.Fast.tw14445328306436186620 : True := trivial
theorem PySem.W.Fast.tw4463190020939840024 : True := trivial
theorem PySem.W.Fast.tw12421887980220494086 : True := trivial
theorem PySem.W.Fast.tw15703600185992030911 : True := trivial
theorem PySem.W.Fast.tw13355165805888793014 : True := trivial
theorem PySem.W.Fast.tw6904041496076165047 : True := trivial
theorem PySem.W.Fast.tw16729110144225821874 : True := trivial
theorem PySem.W.Fast.tw5547191189537291170 : True := trivial
theorem PySem.W.Fast.tw1362849579074890480 : True := trivial
theorem PySem.W.Fast.tw11010724258792211832 : True := trivial
theorem PySem.W.Fast.tw4069562054416745877 : True := trivial
theorem PySem.W.Fast.tw6654324073396243866 : True := trivial
theorem PySem.W.Fast.tw14623974366863378095 : True := trivial
theorem PySem.W.Fast.tw15361701653446311403 : True := trivial
theorem PySem.W.Fast.tw2705617804642255075 : True := trivial
theorem PySem.W.Fast.tw12322237833688722520 : True := trivial
theorem PySem.W.Fast.tw16884822739307151017 : True := trivial
theorem PySem.W.Fast.tw7655376981393392458 : True := trivial
theorem PySem.W.Fast.tw5440499773084486877 : True := trivial
theorem PySem.W.Fast.tw13737054564761424408 : True := trivial
theorem PySem.W.Fast.tw9361321360060520491 : True := trivial
theorem PySem.W.Fast.tw10513328807347630318 : True := trivial
theorem PySem.W.Fast.tw17982550978803634197 : True := trivial
theorem PySem.W.Fast.tw11871698181406500842 : True := trivial
theorem PySem.W.Fast.tw18271760049683573093 : True := trivial
theorem PySem.W.Fast.tw12328430937372394356 : True := trivial
theorem PySem.W.Fast.tw15213824367841600529 : True := trivial
theorem PySem.W.Fast.tw13377353634085069385 : True := trivial
theorem PySem.W.Fast.tw15723901712411461467 : True := trivial
theorem PySem.W.Fast.tw2930978253641185891 : True := trivial
theorem PySem.W.Fast.tw9136288770750923263 : True := trivial
theorem PySem.W.Fast.tw7968476959401381719 : True := trivial
theorem PySem.W.Fast.tw1062586142811732684 : True := trivial
theorem PySem.W.Fast.tw15972707696978216367 : True := trivial
theorem PySem.W.Fast.tw2658122307364153350 : True := trivial
theorem PySem.W.Fast.tw6459413709528404407 : True := trivial
theorem PySem.W.Fast.tw5121076421646154236 : True := trivial
theorem PySem.W.Fast.tw16478387314302507034 : True := trivial
theorem PySem.W.Fast.tw17958319252290122311 : True := trivial
theorem PySem.W.Fast.tw15639162144239424858 : True := trivial
theorem PySem.W.Fast.tw14186134211936122921 : True := trivial
theorem PySem.W.Fast.tw12898327921494580684 : True := trivial
theorem PySem.W.Fast.tw658025538029636597 : True := trivial
theorem PySem.W.Fast.tw15105170208507398877 : True := trivial
theorem PySem.W.Fast.tw18042860395937183672 : True := trivial
theorem PySem.W.Fast.tw17892422193932859952 : True := trivial
theorem PySem.W.Fast.tw10147037327098148643 : True := trivial
theorem PySem.W.Fast.tw11383874451548980035 : True := trivial
theorem PySem.W.Fast.tw536495940037328040 : True := trivial
theorem PySem.W.Fast.tw15897105287010448337 : True := trivial
theorem PySem.W.Fast.tw17951297153055912207 : True := trivial
theorem PySem.W.Fast.tw10203310641761368563 : True := trivial
theorem PySem.W.Fast.tw7203799655392247097 : True := trivial
theorem PySem.W.Fast.tw17739749505005150169 : True := trivial
theorem PySem.W.Fast.tw621108255644713249 : True := trivial
theorem PySem.W.Fast.tw6682756491917955101 : True := trivial
theorem PySem.W.Fast.tw16081739395020289596 : True := trivial
theorem PySem.W.Fast.tw14508186327836627459 : True := trivial
theorem PySem.W.Fast.tw7555178080073453083 : True := trivial
theorem PySem.W.Fast.tw4480283710934319242 : True := trivial
theorem PySem.W.Fast.tw1366170635639332521 : True := trivial
theorem PySem.W.Fast.tw12340304298261281418 : True := trivial
theorem PySem.W.Fast.tw6103576922681782344 : True := trivial
theorem PySem.W.Fast.tw7103208519036141001 : True := trivial
theorem PySem.W.Fast.tw17642713189409998664 : True := trivial
theorem PySem.W.Fast.tw17850646739227294046 : True := trivial
theorem PySem.W.Fast.tw5330381100616209346 : True := trivial
theorem PySem.W.Fast.tw16943164166321139693 : True := trivial
theorem PySem.W.Fast.tw16924225825145562829 : True := trivial
theorem PySem.W.Fast.tw4200893570211843779 : True := trivial
theorem PySem.W.Fast.tw3532204868369614919 : True := trivial
theorem PySem.W.Fast.tw5232296987410340258 : True := trivial
theorem PySem.W.Fast.tw11455386795031451330 : True := trivial
theorem PySem.W.Fast.tw281172133462069652 : True := trivial
theorem PySem.W.Fast.tw8631389266039890386 : True := trivial
theorem PySem.W.Fast.tw16176049993685861026 : True := trivial
theorem PySem.W.Fast.tw13650210511472833773 : True := trivial
theorem PySem.W.Fast.tw17452325573478655443 : True := trivial
theorem PySem.W.Fast.tw2094046557109552154 : True := trivial
theorem PySem.W.Fast.tw2022046227495139276 : True := trivial
theorem PySem.W.Fast.tw7157892212861389736 : True := trivial
theorem PySem.W.Fast.tw5000383783117206215 : True := trivial
theorem PySem.W.Fast.tw12991977133032046974 : True := trivial
theorem PySem.W.Fast.tw18211476264644546860 : True := trivial
theorem PySem.W.Fast.tw9270119856852062038 : True := trivial
theorem PySem.W.Fast.tw15193516941577394029 : True := trivial
theorem PySem.W.Fast.tw7130732791344802690 : True := trivial
theorem PySem.W.Fast.tw17858532098777524831 : True := trivial
theorem PySem.W.Fast.tw8839838927441319038 : True := trivial
theorem PySem.W.Fast.tw288632259277167928 : True := trivial
theorem PySem.W.Fast.tw17343874319041976384 : True := trivial
theorem PySem.W.Fast.tw12072661703113158455 : True := trivial
theorem PySem.W.Fast.tw7376322325560000306 : True := trivial
theorem PySem.W.Fast.tw6626586776134104365 : True := trivial
theorem PySem.W.Fast.tw568469405989184697 : True := trivial
theorem PySem.W.Fast.tw3228950526165155730 : True := trivial
theorem PySem.W.Fast.tw16390492848909189241 : True := trivial
theorem PySem.W.Fast.tw11156802317203811500 : True := trivial
theorem PySem.W.Fast.tw5358620403211200421 : True := trivial
theorem PySem.W.Fast.tw17096756573614040971 : True := trivial
theorem PySem.W.Fast.tw8547232029853295010 : True := trivial
theorem PySem.W.Fast.tw7279014380654149619 : True := trivial
theorem PySem.W.Fast.tw16797720471755656068 : True := trivial
theorem PySem.W.Fast.tw3661155647748364753 : True := trivial
theorem PySem.W.Fast.tw12168833328937811427 : True := trivial
theorem PySem.W.Fast.tw17157212334081824540 : True := trivial
theorem PySem.W.Fast.tw18227710274150137420 : True := trivial
theorem PySem.W.Fast.tw3807843952698551139 : True := trivial
theorem PySem.W.Fast.tw16525988016024338237 : True := trivial
theorem PySem.W.Fast.tw5451771264996696283 : True := trivial
theorem PySem.W.Fast.tw7734755520623368368 : True := trivial
theorem PySem.W.Fast.tw3249160261435411816 : True := trivial
theorem PySem.W.Fast.tw16504954066375887191 : True := trivial
theorem PySem.W.Fast.tw14261043751796086997 : True := trivial
theorem PySem.W.Fast.tw549153966938476751 : True := trivial
theorem PySem.W.Fast.tw9371937255764781369 : True := trivial
theorem PySem.W.Fast.tw3874328429401987541 : True := trivial
theorem PySem.W.Fast.tw8745840402373055399 : True := trivial
theorem PySem.W.Fast.tw13552428572843848398 : True := trivial
theorem PySem.W.Fast.tw14084756918799395659 : True := trivial
theorem PySem.W.Fast.tw12293079747969624976 : True := trivial
theorem PySem.W.Fast.tw910037554127130321 : True := trivial
theorem PySem.W.Fast.tw5600918672995514983 : True := trivial
theorem PySem.W.Fast.tw14992007343578435577 : True := trivial
theorem PySem.W.Fast.tw11022369593847949326 : True := trivial
theorem PySem.W.Fast.tw4511825711880355914 : True := trivial
theorem PySem.W.Fast.tw16255814282461112218 : True := trivial
theorem PySem.W.Fast.tw11212721275296922045 : True := trivial
theorem PySem.W.Fast.tw9583601742575192489 : True := trivial
theorem PySem.W.Fast.tw7428454749323191968 : True := trivial
theorem PySem.W.Fast.tw6101498288314156638 : True := trivial
theorem PySem.W.Fast.tw3407298951151468891 : True := trivial
theorem PySem.W.Fast.tw3505018553765207964 : True := trivial
theorem PySem.W.Fast.tw1938056498718231456 : True := trivial
theorem PySem.W.Fast.tw1352315665938733465 : True := trivial
theorem PySem.W.Fast.tw13669445155434642445 : True := trivial
theorem PySem.W.Fast.tw8070784295932959241 : True := trivial
theorem PySem.W.Fast.tw3203653744442714939 : True := trivial
theorem PySem.W.Fast.tw3160786473916554846 : True := trivial
theorem PySem.W.Fast.tw5545481265841669042 : True := trivial
theorem PySem.W.Fast.tw9308590399417496647 : True := trivial
theorem PySem.W.Fast.tw16902058341142716380 : True := trivial
theorem PySem.W.Fast.tw10440486159350953782 : True := trivial
theorem PySem.W.Fast.tw16371618931226264558 : True := trivial
theorem PySem.W.Fast.tw12049723660850329622 : True := trivial
theorem PySem.W.Fast.tw10346213668185127304 : True := trivial
theorem PySem.W.Fast.tw1059572390175017391 : True := trivial
theorem PySem.W.Fast.tw11759887611809162859 : True := trivial
theorem PySem.W.Fast.tw4569089818881427258 : True := trivial
theorem PySem.W.Fast.tw10509306087530846034 : True := trivial
theorem PySem.W.Fast.tw12588238004475952457 : True := trivial
theorem PySem.W.Fast.tw6297834199704223696 : True := trivial
theorem PySem.W.Fast.tw9034164472039994364 : True := trivial
theorem PySem.W.Fast.tw4007935601596463072 : True := trivial
theorem PySem.W.Fast.tw13261956841410940779 : True := trivial
theorem PySem.W.Fast.tw1495326687428125519 : True := trivial
theorem PySem.W.Fast.tw8824320409233177478 : True := trivial
theorem PySem.W.Fast.tw15846885065555583877 : True := trivial
theorem PySem.W.Fast.tw17390761411100729732 : True := trivial
theorem PySem.W.Fast.tw9105057262739075355 : True := trivial
theorem PySem.W.Fast.tw8921166227987359052 : True := trivial
theorem PySem.W.Fast.tw8642756318321698425 : True := trivial
theorem PySem.W.Fast.tw17828472565181352137 : True := trivial
theorem PySem.W.Fast.tw3490913740232323673 : True := trivial
theorem PySem.W.Fast.tw13796890491660892526 : True := trivial
theorem PySem.W.Fast.tw18239036116508646303 : True := trivial
theorem PySem.W.Fast.tw12743130695241909180 : True := trivial
theorem PySem.W.Fast.tw8293677247324647230 : True := trivial
theorem PySem.W.Fast.tw4180826886606694687 : True := trivial
theorem PySem.W.Fast.tw16180020645435155728 : True := trivial
theorem PySem.W.Fast.tw4646303014472107421 : True := trivial
theorem PySem.W.Fast.tw8319787760184819406 : True := trivial
theorem PySem.W.Fast.tw1847465926757356548 : True := trivial
theorem PySem.W.Fast.tw12839122498920005532 : True := trivial
theorem PySem.W.Fast.tw1322701666369420308 : True := trivial
theorem PySem.W.Fast.tw318489322960385118 : True := trivial
theorem PySem.W.Fast.tw10075218813338551759 : True := trivial
theorem PySem.W.Fast.tw4643410777937821093 : True := trivial
theorem PySem.W.Fast.tw10236856848667158347 : True := trivial
theorem PySem.W.Fast.tw13884038983577921393 : True := trivial
theorem PySem.W.Fast.tw4734818481292909980 : True := trivial
theorem PySem.W.Fast.tw7589371410589129857 : True := trivial
theorem PySem.W.Fast.tw3847897452154765596 : True := trivial
theorem PySem.W.Fast.tw705895941119175344 : True := trivial
theorem PySem.W.Fast.tw12592196269282378570 : True := trivial
theorem PySem.W.Fast.tw1263672341297657453 : True := trivial
theorem PySem.W.Fast.tw16757269297680518102 : True := trivial
theorem PySem.W.Fast.tw13018646847521942161 : True := trivial
theorem PySem.W.Fast.tw3836498763446689258 : True := trivial
theorem PySem.W.Fast.tw12904029903193432541 : True := trivial
theorem PySem.W.Fast.tw2872118509753354716 : True := trivial
theorem PySem.W.Fast.tw4215091287306059239 : True := trivial
theorem PySem.W.Fast.tw8359919144659408366 : True := trivial
theorem PySem.W.Fast.tw17390643640864882338 : True := trivial
theorem PySem.W.Fast.tw11100703093080842223 : True := trivial
theorem PySem.W.Fast.tw11995131092252967228 : True := trivial
theorem PySem.W.Fast.tw1873864815894546101 : True := trivial
theorem PySem.W.Fast.tw1350691110287765710 : True := trivial
theorem PySem.W.Fast.tw17099184169570741373 : True := trivial
theorem PySem.W.Fast.tw14576106333703973885 : True := trivial
theorem PySem.W.Fast.tw1437883526225024314 : True := trivial
theorem PySem.W.Fast.tw3009961262885384870 : True := trivial
theorem PySem.W.Fast.tw309369876823210707 : True := trivial
theorem PySem.W.Fast.tw8957196352174235545 : True := trivial
theorem PySem.W.Fast.tw17335522888453895591 : True := trivial
theorem PySem.W.Fast.tw14697948568146290438 : True := trivial
theorem PySem.W.Fast.tw13202133768407644322 : True := trivial
theorem PySem.W.Fast.tw2641890523819352186 : True := trivial
theorem PySem.W.Fast.tw6831823273464713786 : True := trivial
theorem PySem.W.Fast.tw7416296385513559823 : True := trivial
theorem PySem.W.Fast.tw11732274184436297842 : True := trivial
theorem PySem.W.Fast.tw9221950764990695780 : True := trivial
theorem PySem.W.Fast.tw7853137308960278125 : True := trivial
theorem PySem.W.Fast.tw9369250187917964156 : True := trivial
theorem PySem.W.Fast.tw7695451111003279608 : True := trivial
theorem PySem.W.Fast.tw456917454439402386 : True := trivial
theorem PySem.W.Fast.tw2905717919734851131 : True := trivial
theorem PySem.W.Fast.tw14029736077466626323 : True := trivial
theorem PySem.W.Fast.tw10355166056204454865 : True := trivial
theorem PySem.W.Fast.tw2566284536414211085 : True := trivial
theorem PySem.W.Fast.tw8189427657937563966 : True := trivial
theorem PySem.W.Fast.tw8067565442603826026 : True := trivial
theorem PySem.W.Fast.tw14395169499951811083 : True := trivial
theorem PySem.W.Fast.tw14323375169996822783 : True := trivial
theorem PySem.W.Fast.tw15590583990517726192 : True := trivial
theorem PySem.W.Fast.tw7538633363430033289 : True := trivial
theorem PySem.W.Fast.tw11605396055319184200 : True := trivial
theorem PySem.W.Fast.tw6191005133725026474 : True := trivial
theorem PySem.W.Fast.tw8939788304246567263 : True := trivial
theorem PySem.W.Fast.tw16243183711722548774 : True := trivial
theorem PySem.W.Fast.tw10291391388844315100 : True := trivial
theorem PySem.W.Fast.tw9204605653581722659 : True := trivial
theorem PySem.W.Fast.tw15312873846817886503 : True := trivial
theorem PySem.W.Fast.tw6419555055600351304 : True := trivial
theorem PySem.W.Fast.tw17975691705990344949 : True := trivial
theorem PySem.W.Fast.tw5566580734843436287 : True := trivial
theorem PySem.W.Fast.tw16553458326224755298 : True := trivial
theorem PySem.W.Fast.tw8709038121805269033 : True := trivial
theorem PySem.W.Fast.tw1577171097809824943 : True := trivial
theorem PySem.W.Fast.tw13266667957668274730 : True := trivial
theorem PySem.W.Fast.tw3967017847246126336 : True := trivial
theorem PySem.W.Fast.tw999794691838886502 : True := trivial
theorem PySem.W.Fast.tw2344619845090392969 : True := trivial
theorem PySem.W.Fast.tw8184721853865054562 : True := trivial
theorem PySem.W.Fast.tw16584950555200655435 : True := trivial
theorem PySem.W.Fast.tw6223416212665650802 : True := trivial
theorem PySem.W.Fast.tw1006516793330538991 : True := trivial
theorem PySem.W.Fast.tw15362445096916452056 : True := trivial
theorem PySem.W.Fast.tw5744660689747438218 : True := trivial
theorem PySem.W.Fast.tw15645978341449863707 : True := trivial
theorem PySem.W.Fast.tw3828545244828087181 : True := trivial
theorem PySem.W.Fast.tw16721745784125296727 : True := trivial
theorem PySem.W.Fast.tw12026419339827794643 : True := trivial
theorem PySem.W.Fast.tw2214450280494376701 : True := trivial
theorem PySem.W.Fast.tw9490470580274129991 : True := trivial
theorem PySem.W.Fast.tw2471277301474147684 : True := trivial
theorem PySem.W.Fast.tw12380098784455561446 : True := trivial
theorem PySem.W.Fast.tw5648185477200661565 : True := trivial
theorem PySem.W.Fast.tw8819325712565224987 : True := trivial
theorem PySem.W.Fast.tw17432365333923452983 : True := trivial
theorem PySem.W.Fast.tw7041713002679486276 : True := trivial
theorem PySem.W.Fast.tw7402769384436613383 : True := trivial
theorem PySem.W.Fast.tw6713462558341382191 : True := trivial
theorem PySem.W.Fast.tw8930407453639306328 : True := trivial
theorem PySem.W.Fast.tw6241085671403843549 : True := trivial
theorem PySem.W.Fast.tw6966432780151506785 : True := trivial
theorem PySem.W.Fast.tw14223192801728193270 : True := trivial
theorem PySem.W.Fast.tw7661150778725235532 : True := trivial
theorem PySem.W.Fast.tw15717347585650370168 : True := trivial
theorem PySem.W.Fast.tw10769447181773632574 : True := trivial
theorem PySem.W.Fast.tw3154165075202135495 : True := trivial
theorem PySem.W.Fast.tw2937819641674354054 : True := trivial
theorem PySem.W.Fast.tw12940970910979873144 : True := trivial
theorem PySem.W.Fast.tw16937459716661990858 : True := trivial
theorem PySem.W.Fast.tw2653095464479465547 : True := trivial
theorem PySem.W.Fast.tw12239133130150725308 : True := trivial
theorem PySem.W.Fast.tw7638420383406088463 : True := trivial
theorem PySem.W.Fast.tw8180188239632013024 : True := trivial
theorem PySem.W.Fast.tw17569636393112038360 : True := trivial
theorem PySem.W.Fast.tw9609298427657757522 : True := trivial
theorem PySem.W.Fast.tw13168163814934985190 : True := trivial
theorem PySem.W.Fast.tw18236517848501769419 : True := trivial
theorem PySem.W.Fast.tw326462287899206632 : True := trivial
theorem PySem.W.Fast.tw12708592868892936055 : True := trivial
theorem PySem.W.Fast.tw2797372394051378096 : True := trivial
theorem PySem.W.Fast.tw14834349792634049248 : True := trivial
theorem PySem.W.Fast.tw4925406163802660697 : True := trivial
theorem PySem.W.Fast.tw2209609397511383199 : True := trivial
theorem PySem.W.Fast.tw9819608974202012233 : True := trivial
theorem PySem.W.Fast.tw11397619138245916472 : True := trivial
theorem PySem.W.Fast.tw14496065757205061223 : True := trivial
theorem PySem.W.Fast.tw8761296670728761766 : True := trivial
theorem PySem.W.Fast.tw13234531290571831485 : True := trivial
theorem PySem.W.Fast.tw951583141627711557 : True := trivial
theorem PySem.W.Fast.tw3187587791782313702 : True := trivial
theorem PySem.W.Fast.tw8978137323953695085 : True := trivial
theorem PySem.W.Fast.tw6453911281055916929 : True := trivial
theorem PySem.W.Fast.tw10429149664297116647 : True := trivial
theorem PySem.W.Fast.tw6676508839169885031 : True := trivial
theorem PySem.W.Fast.tw9347933706670936975 : True := trivial
theorem PySem.W.Fast.tw13434642044634970273 : True := trivial
theorem PySem.W.Fast.tw8929510934872777035 : True := trivial
theorem PySem.W.Fast.tw2712001893321973093 : True := trivial
theorem PySem.W.Fast.tw9305619021853670283 : True := trivial
theorem PySem.W.Fast.tw17445826016339470560 : True := trivial
theorem PySem.W.Fast.tw8414507916316144449 : True := trivial
theorem PySem.W.Fast.tw2031831553848056947 : True := trivial
theorem PySem.W.Fast.tw9514980011860377338 : True := trivial
theorem PySem.W.Fast.tw12829415563218471264 : True := trivial
theorem PySem.W.Fast.tw17646338654478246764 : True := trivial
theorem PySem.W.Fast.tw13680121715934691289 : True := trivial
theorem PySem.W.Fast.tw13620423044664969688 : True := trivial
theorem PySem.W.Fast.tw1004888672588554106 : True := trivial
theorem PySem.W.Fast.tw15560603332258266463 : True := trivial
theorem PySem.W.Fast.tw6222275172597561885 : True := trivial
theorem PySem.W.Fast.tw14644537605682123452 : True := trivial
theorem PySem.W.Fast.tw4108315011411255735 : True := trivial
theorem PySem.W.Fast.tw5511882459135833612 : True := trivial
theorem PySem.W.Fast.tw15703524551712520728 : True := trivial
theorem PySem.W.Fast.tw8583836625403466839 : True := trivial
theorem PySem.W.Fast.tw11466724466372614349 : True := trivial
theorem PySem.W.Fast.tw16147302709844788528 : True := trivial
theorem PySem.W.Fast.tw5739353701941681516 : True := trivial
theorem PySem.W.Fast.tw2122273179640583640 : True := trivial
theorem PySem.W.Fast.tw3000972965210085675 : True := trivial
theorem PySem.W.Fast.tw16153660198078373823 : True := trivial
theorem PySem.W.Fast.tw5813796403117240558 : True := trivial
theorem PySem.W.Fast.tw6019186383346607584 : True := trivial
theorem PySem.W.Fast.tw8355671396316619738 : True := trivial
theorem PySem.W.Fast.tw5031720596380809446 : True := trivial
theorem PySem.W.Fast.tw1540855544684176343 : True := trivial
theorem PySem.W.Fast.tw15253203000447294654 : True := trivial
theorem PySem.W.Fast.tw10490815078879243910 : True := trivial
theorem PySem.W.Fast.tw14830952884282234165 : True := trivial
theorem PySem.W.Fast.tw2995042612938531300 : True := trivial
theorem PySem.W.Fast.tw15665356601979170791 : True := trivial
theorem PySem.W.Fast.tw6987669878896234587 : True := trivial
theorem PySem.W.Fast.tw13091276567340850048 : True := trivial
theorem PySem.W.Fast.tw11146205115259568803 : True := trivial
theorem PySem.W.Fast.tw1087744617503858189 : True := trivial
theorem PySem.W.Fast.tw16927279903179920878 : True := trivial
theorem PySem.W.Fast.tw3933327368738239071 : True := trivial
theorem PySem.W.Fast.tw9847549303012848728 : True := trivial
theorem PySem.W.Fast.tw4962447213379595554 : True := trivial
theorem PySem.W.Fast.tw11663447322464047332 : True := trivial
theorem PySem.W.Fast.tw13669745055774204682 : True := trivial
theorem PySem.W.Fast.tw10277507317840280229 : True := trivial
theorem PySem.W.Fast.tw16753674170222155165 : True := trivial
theorem PySem.W.Fast.tw17778314529405747766 : True := trivial
theorem PySem.W.Fast.tw14460215666340654377 : True := trivial
theorem PySem.W.Fast.tw13300249017667588980 : True := trivial
theorem PySem.W.Fast.tw17474813902953162545 : True := trivial
theorem PySem.W.Fast.tw7488721844742668243 : True := trivial
theorem PySem.W.Fast.tw7895207107535646562 : True := trivial
theorem PySem.W.Fast.tw16316885541376653508 : True := trivial
theorem PySem.W.Fast.tw6791081839242699631 : True := trivial
theorem PySem.W.Fast.tw3222849145234087490 : True := trivial
theorem PySem.W.Fast.tw6300643372725489143 : True := trivial
theorem PySem.W.Fast.tw15609257379479070590 : True := trivial
theorem PySem.W.Fast.tw11538038754467936663 : True := trivial
theorem PySem.W.Fast.tw5146307936736773960 : True := trivial
theorem PySem.W.Fast.tw4972072013572060149 : True := trivial
theorem PySem.W.Fast.tw2741081828723782434 : True := trivial
theorem PySem.W.Fast.tw18350956957606475495 : True := trivial
theorem PySem.W.Fast.tw5553000821656975984 : True := trivial
theorem PySem.W.Fast.tw14760100108041246081 : True := trivial
theorem PySem.W.Fast.tw3328580080620264217 : True := trivial
theorem PySem.W.Fast.tw1420118624508452751 : True := trivial
theorem PySem.W.Fast.tw858853507743659648 : True := trivial
theorem PySem.W.Fast.tw15855690359030955920 : True := trivial
theorem PySem.W.Fast.tw8628909187770009350 : True := trivial
theorem PySem.W.Fast.tw4737189179994325211 : True := trivial
theorem PySem.W.Fast.tw13365734687748920603 : True := trivial
theorem PySem.W.Fast.tw7167518780303892148 : True := trivial
theorem PySem.W.Fast.tw11343090486708313001 : True := trivial
theorem PySem.W.Fast.tw11919319991229383793 : True := trivial
theorem PySem.W.Fast.tw8622246653373516336 : True := trivial
theorem PySem.W.Fast.tw8510636591835381139 : True := trivial
theorem PySem.W.Fast.tw13694646278131778318 : True := trivial
theorem PySem.W.Fast.tw2678684141846336289 : True := trivial
theorem PySem.W.Fast.tw2783030449187044976 : True := trivial
theorem PySem.W.Fast.tw13762436330804398219 : True := trivial
theorem PySem.W.Fast.tw2111873444171257608 : True := trivial
theorem PySem.W.Fast.tw3020255604772469553 : True := trivial
theorem PySem.W.Fast.tw15162316733394400403 : True := trivial
theorem PySem.W.Fast.tw18028773954724172203 : True := trivial
theorem PySem.W.Fast.tw13555117399064148080 : True := trivial
theorem PySem.W.Fast.tw13847589170767989266 : True := trivial
theorem PySem.W.Fast.tw15215479750139094221 : True := trivial
theorem PySem.W.Fast.tw496492052136862684 : True := trivial
theorem PySem.W.Fast.tw15069431773087937375 : True := trivial
theorem PySem.W.Fast.tw2983330087723537949 : True := trivial
theorem PySem.W.Fast.tw18394402422790227969 : True := trivial
theorem PySem.W.Fast.tw17063711670105671104 : True := trivial
theorem PySem.W.Fast.tw16740768280574297889 : True := trivial
theorem PySem.W.Fast.tw6819816312413840758 : True := trivial
theorem PySem.W.Fast.tw329177438395968039 : True := trivial
theorem PySem.W.Fast.tw5215561311038015268 : True := trivial
theorem PySem.W.Fast.tw9114197887325084964 : True := trivial
theorem PySem.W.Fast.tw11270799203118296709 : True := trivial
theorem PySem.W.Fast.tw7896392021324882494 : True := trivial
theorem PySem.W.Fast.tw11348980920158283388 : True := trivial
theorem PySem.W.Fast.tw11193492316175287987 : True := trivial
theorem PySem.W.Fast.tw15160305654256812848 : True := trivial
theorem PySem.W.Fast.tw5377653025139943199 : True := trivial
theorem PySem.W.Fast.tw18012428705275571990 : True := trivial
theorem PySem.W.Fast.tw5555241556614237961 : True := trivial
theorem PySem.W.Fast.tw10526807252260936114 : True := trivial
theorem PySem.W.Fast.tw13736442833448350362 : True := trivial
theorem PySem.W.Fast.tw2902244793894735803 : True := trivial
theorem PySem.W.Fast.tw11352029312018241849 : True := trivial
theorem PySem.W.Fast.tw6841017594088826434 : True := trivial
theorem PySem.W.Fast.tw1900875586691880322 : True := trivial
theorem PySem.W.Fast.tw18215687248326665920 : True := trivial
theorem PySem.W.Fast.tw7256721452879815275 : True := trivial
theorem PySem.W.Fast.tw2886748634040101413 : True := trivial
theorem PySem.W.Fast.tw6917252464018054106 : True := trivial
theorem PySem.W.Fast.tw11049602686513957203 : True := trivial
theorem PySem.W.Fast.tw6685305756077676449 : True := trivial
theorem PySem.W.Fast.tw7530978628038225367 : True := trivial
theorem PySem.W.Fast.tw6174778441371346643 : True := trivial
theorem PySem.W.Fast.tw2610929517472526720 : True := trivial
theorem PySem.W.Fast.tw15148409137842404918 : True := trivial
theorem PySem.W.Fast.tw7631908162420530784 : True := trivial
theorem PySem.W.Fast.tw14803600306748421571 : True := trivial
theorem PySem.W.Fast.tw15384212126388511717 : True := trivial
theorem PySem.W.Fast.tw660223849435689208 : True := trivial
theorem PySem.W.Fast.tw8423998246504165055 : True := trivial
theorem PySem.W.Fast.tw7280631304038141025 : True := trivial
theorem PySem.W.Fast.tw4546309280302259484 : True := trivial
theorem PySem.W.Fast.tw7808991916630022731 : True := trivial
theorem PySem.W.Fast.tw3483866068379142218 : True := trivial
theorem PySem.W.Fast.tw2024774005156322462 : True := trivial
theorem PySem.W.Fast.tw15789977933434472140 : True := trivial
theorem PySem.W.Fast.tw8972055061396852236 : True := trivial
theorem PySem.W.Fast.tw5636575873244384719 : True := trivial
theorem PySem.W.Fast.tw4696967083313484949 : True := trivial
theorem PySem.W.Fast.tw13443659430873295456 : True := trivial
theorem PySem.W.Fast.tw2029266760443868445 : True := trivial
theorem PySem.W.Fast.tw4575397280146166216 : True := trivial
theorem PySem.W.Fast.tw13898124841312708488 : True := trivial
theorem PySem.W.Fast.tw8725407384244063923 : True := trivial
theorem PySem.W.Fast.tw1953460071794937675 : True := trivial
theorem PySem.W.Fast.tw10782916772479935194 : True := trivial
theorem PySem.W.Fast.tw6838045358593697023 : True := trivial
theorem PySem.W.Fast.tw16770448282970314807 : True := trivial
theorem PySem.W.Fast.tw14091289901958669067 : True := trivial
theorem PySem.W.Fast.tw9000231568093811953 : True := trivial
theorem PySem.W.Fast.tw5791372094893506964 : True := trivial
theorem PySem.W.Fast.tw8277074843838184779 : True := trivial
theorem PySem.W.Fast.tw12368948369027295377 : True := trivial
theorem PySem.W.Fast.tw1913050288516996503 : True := trivial
theorem PySem.W.Fast.tw13085480475184494765 : True := trivial
theorem PySem.W.Fast.tw5709876477849301113 : True := trivial
theorem PySem.W.Fast.tw5334004847207916672 : True := trivial
theorem PySem.W.Fast.tw13099591879293978666 : True := trivial
theorem PySem.W.Fast.tw2576486018951043689 : True := trivial
theorem PySem.W.Fast.tw2573874186032644102 : True := trivial
theorem PySem.W.Fast.tw10736598608752833527 : True := trivial
theorem PySem.W.Fast.tw4475600778813551839 : True := trivial
theorem PySem.W.Fast.tw2354581096899234075 : True := trivial
theorem PySem.W.Fast.tw9581204064583943094 : True := trivial
theorem PySem.W.Fast.tw11704013388747545529 : True := trivial
theorem PySem.W.Fast.tw10387862874183058001 : True := trivial
theorem PySem.W.Fast.tw16194110696302501593 : True := trivial
theorem PySem.W.Fast.tw10584347096321806746 : True := trivial
theorem PySem.W.Fast.tw4011825606506253922 : True := trivial
theorem PySem.W.Fast.tw1250135645806650608 : True := trivial
theorem PySem.W.Fast.tw1680753082111820575 : True := trivial
theorem PySem.W.Fast.tw7334856580688777593 : True := trivial
theorem PySem.W.Fast.tw7545439513196360629 : True := trivial
theorem PySem.W.Fast.tw18073436631853492827 : True := trivial
theorem PySem.W.Fast.tw5276872333251970307 : True := trivial
theorem PySem.W.Fast.tw9324219397550073580 : True := trivial
theorem PySem.W.Fast.tw8273551871384061761 : True := trivial
theorem PySem.W.Fast.tw18219604836977689306 : True := trivial
theorem PySem.W.Fast.tw10134151495733099864 : True := trivial
theorem PySem.W.Fast.tw14065801987917235269 : True := trivial
theorem PySem.W.Fast.tw10111755794910950634 : True := trivial
theorem PySem.W.Fast.tw4687786344212392611 : True := trivial
theorem PySem.W.Fast.tw10585244917910201138 : True := trivial
theorem PySem.W.Fast.tw16400931470044119468 : True := trivial
theorem PySem.W.Fast.tw3486006978283706769 : True := trivial
theorem PySem.W.Fast.tw9186351996422643005 : True := trivial
theorem PySem.W.Fast.tw491005596709037832 : True := trivial
theorem PySem.W.Fast.tw13661517511479691289 : True := trivial
theorem PySem.W.Fast.tw14447313183707046438 : True := trivial
theorem PySem.W.Fast.tw16661017172533920031 : True := trivial
theorem PySem.W.Fast.tw14430348832825759870 : True := trivial
theorem PySem.W.Fast.tw12303162640870346772 : True := trivial
theorem PySem.W.Fast.tw9930552963594383143 : True := trivial
theorem PySem.W.Fast.tw9480604305463556344 : True := trivial
theorem PySem.W.Fast.tw11386246820733981168 : True := trivial
theorem PySem.W.Fast.tw10272010859962173914 : True := trivial
theorem PySem.W.Fast.tw16550963780777483335 : True := trivial
theorem PySem.W.Fast.tw10998678059804036058 : True := trivial
theorem PySem.W.Fast.tw11606110636628101570 : True := trivial
theorem PySem.W.Fast.tw4316057028943838101 : True := trivial
theorem PySem.W.Fast.tw15472942877939006600 : True := trivial
theorem PySem.W.Fast.tw8631633272717227155 : True := trivial
theorem PySem.W.Fast.tw5182786792199560619 : True := trivial
theorem PySem.W.Fast.tw3329379599753647638 : True := trivial
theorem PySem.W.Fast.tw11003074886946593948 : True := trivial
theorem PySem.W.Fast.tw17163784390728433089 : True := trivial
theorem PySem.W.Fast.tw18274141406955296716 : True := trivial
theorem PySem.W.Fast.tw10309470432117911386 : True := trivial
theorem PySem.W.Fast.tw17242814198568294497 : True := trivial
theorem PySem.W.Fast.tw8997007143991612296 : True := trivial
theorem PySem.W.Fast.tw16589677717426423423 : True := trivial
theorem PySem.W.Fast.tw5995626543713467235 : True := trivial
theorem PySem.W.Fast.tw2106440066754550374 : True := trivial
theorem PySem.W.Fast.tw1033159336121165747 : True := trivial
theorem PySem.W.Fast.tw12621021208566994929 : True := trivial
theorem PySem.W.Fast.tw6885299769859716653 : True := trivial
theorem PySem.W.Fast.tw4653639821519818551 : True := trivial
theorem PySem.W.Fast.tw7109178639016213278 : True := trivial
theorem PySem.W.Fast.tw7623639911999626207 : True := trivial
theorem PySem.W.Fast.tw1845921171699573232 : True := trivial
theorem PySem.W.Fast.tw17294848795352235071 : True := trivial
theorem PySem.W.Fast.tw2048008713592641481 : True := trivial
theorem PySem.W.Fast.tw14941920692123518490 : True := trivial
theorem PySem.W.Fast.tw6757000684178044612 : True := trivial
theorem PySem.W.Fast.tw15956994639824880485 : True := trivial
theorem PySem.W.Fast.tw16405939911038439302 : True := trivial
theorem PySem.W.Fast.tw17289364664525590605 : True := trivial
theorem PySem.W.Fast.tw2807202484500270274 : True := trivial
theorem PySem.W.Fast.tw6611051276651400774 : True := trivial
theorem PySem.W.Fast.tw14159028877170909848 : True := trivial
theorem PySem.W.Fast.tw12064814538557233038 : True := trivial
theorem PySem.W.Fast.tw721867438527469173 : True := trivial
theorem PySem.W.Fast.tw3897180885101273860 : True := trivial
theorem PySem.W.Fast.tw2675501870887275162 : True := trivial
theorem PySem.W.Fast.tw11466960019905742441 : True := trivial
theorem PySem.W.Fast.tw5372087771110564896 : True := trivial
theorem PySem.W.Fast.tw6028282075016475625 : True := trivial
theorem PySem.W.Fast.tw365818345558892330 : True := trivial
theorem PySem.W.Fast.tw11188345032940740535 : True := trivial
theorem PySem.W.Fast.tw719869165043756330 : True := trivial
theorem PySem.W.Fast.tw16016404619856450781 : True := trivial
theorem PySem.W.Fast.tw8710042916435202182 : True := trivial
theorem PySem.W.Fast.tw7498313999351924917 : True := trivial
theorem PySem.W.Fast.tw11699156725304175930 : True := trivial
theorem PySem.W.Fast.tw6167066144215893736 : True := trivial
theorem PySem.W.Fast.tw9982308073980935132 : True := trivial
theorem PySem.W.Fast.tw977630881254792779 : True := trivial
theorem PySem.W.Fast.tw11145787062055330870 : True := trivial
theorem PySem.W.Fast.tw3922457974748254041 : True := trivial
theorem PySem.W.Fast.tw11651431072498421549 : True := trivial
theorem PySem.W.Fast.tw6372059786397794249 : True := trivial
theorem PySem.W.Fast.tw2074590852173312587 : True := trivial
theorem PySem.W.Fast.tw16291657728156073470 : True := trivial
theorem PySem.W.Fast.tw2597281912511132235 : True := trivial
theorem PySem.W.Fast.tw7651188797072182920 : True := trivial
theorem PySem.W.Fast.tw16219515295715815999 : True := trivial
theorem PySem.W.Fast.tw7731788457949366362 : True := trivial
theorem PySem.W.Fast.tw8618032513236397005 : True := trivial
theorem PySem.W.Fast.tw4360940072490858409 : True := trivial
theorem PySem.W.Fast.tw1932694089024391229 : True := trivial
theorem PySem.W.Fast.tw10885130879550751252 : True := trivial
theorem PySem.W.Fast.tw16728883155463670506 : True := trivial
theorem PySem.W.Fast.tw11619016097758935175 : True := trivial
theorem PySem.W.Fast.tw18098066548009387543 : True := trivial
theorem PySem.W.Fast.tw3364679326455618965 : True := trivial
theorem PySem.W.Fast.tw18223219605929789126 : True := trivial
theorem PySem.W.Fast.tw1113330830653102212 : True := trivial
theorem PySem.W.Fast.tw16325997110816230324 : True := trivial
theorem PySem.W.Fast.tw14845410693197828330 : True := trivial
theorem PySem.W.Fast.tw9937373749574565943 : True := trivial
theorem PySem.W.Fast.tw14248764375275333479 : True := trivial
theorem PySem.W.Fast.tw11673775486708497239 : True := trivial
theorem PySem.W.Fast.tw17795833771701680196 : True := trivial
theorem PySem.W.Fast.tw8365486467674838863 : True := trivial
theorem PySem.W.Fast.tw1491742685118182883 : True := trivial
theorem PySem.W.Fast.tw1314419939516186976 : True := trivial
theorem PySem.W.Fast.tw12626966574487974994 : True := trivial
theorem PySem.W.Fast.tw2121631241363794644 : True := trivial
theorem PySem.W.Fast.tw4055353276227313753 : True := trivial
theorem PySem.W.Fast.tw6162477145507357450 : True := trivial
theorem PySem.W.Fast.tw6513947728916205727 : True := trivial
theorem PySem.W.Fast.tw13742419872220018370 : True := trivial
theorem PySem.W.Fast.tw14761348400910220160 : True := trivial
theorem PySem.W.Fast.tw6188724978386803063 : True := trivial
theorem PySem.W.Fast.tw16902395078616734471 : True := trivial
theorem PySem.W.Fast.tw14199927039100083546 : True := trivial
theorem PySem.W.Fast.tw9039048842316601745 : True := trivial
theorem PySem.W.Fast.tw6297134008995606740 : True := trivial
theorem PySem.W.Fast.tw11194173513891922930 : True := trivial
theorem PySem.W.Fast.tw11969756295342131078 : True := trivial
theorem PySem.W.Fast.tw4979816028264377583 : True := trivial
theorem PySem.W.Fast.tw4769924070367324975 : True := trivial
theorem PySem.W.Fast.tw6437617730753102914 : True := trivial
theorem PySem.W.Fast.tw38090099652124932 : True := trivial
theorem PySem.W.Fast.tw11191072764901400221 : True := trivial
theorem PySem.W.Fast.tw1242071469470551005 : True := trivial
theorem PySem.W.Fast.tw2429915560942520839 : True := trivial
theorem PySem.W.Fast.tw9622526771053359888 : True := trivial
theorem PySem.W.Fast.tw13745331952436911913 : True := trivial
theorem PySem.W.Fast.tw3646362765425852675 : True := trivial
theorem PySem.W.Fast.tw12189404031652770841 : True := trivial
theorem PySem.W.Fast.tw12552400059265424608 : True := trivial
theorem PySem.W.Fast.tw17149048265765476293 : True := trivial
theorem PySem.W.Fast.tw3373732439552650322 : True := trivial
theorem PySem.W.Fast.tw9275220490101360940 : True := trivial
theorem PySem.W.Fast.tw2905742334329820229 : True := trivial
theorem PySem.W.Fast.tw16248459091386342206 : True := trivial
theorem PySem.W.Fast.tw1178347318821479976 : True := trivial
theorem PySem.W.Fast.tw14360592464537438312 : True := trivial
theorem PySem.W.Fast.tw2473828705786118076 : True := trivial
theorem PySem.W.Fast.tw1591090471121780903 : True := trivial
theorem PySem.W.Fast.tw5459293002506993455 : True := trivial
theorem PySem.W.Fast.tw4482181169207220240 : True := trivial
theorem PySem.W.Fast.tw14647120290733979944 : True := trivial
theorem PySem.W.Fast.tw9063142973511359713 : True := trivial
theorem PySem.W.Fast.tw15936727635139384889 : True := trivial
theorem PySem.W.Fast.tw18343103725177284411 : True := trivial
theorem PySem.W.Fast.tw8552294785392035573 : True := trivial
theorem PySem.W.Fast.tw10714742800718960273 : True := trivial
theorem PySem.W.Fast.tw7888868253783771533 : True := trivial
theorem PySem.W.Fast.tw5408285259675663181 : True := trivial
theorem PySem.W.Fast.tw6462209728003164289 : True := trivial
theorem PySem.W.Fast.tw13658638776766866848 : True := trivial
theorem PySem.W.Fast.tw7232186769172482414 : True := trivial
theorem PySem.W.Fast.tw17978627492557267335 : True := trivial
theorem PySem.W.Fast.tw16142461861456854628 : True := trivial
theorem PySem.W.Fast.tw15840995623228114415 : True := trivial
theorem PySem.W.Fast.tw12093273859178206837 : True := trivial
theorem PySem.W.Fast.tw6029065827080816428 : True := trivial
theorem PySem.W.Fast.tw12055225864368896872 : True := trivial
theorem PySem.W.Fast.tw10242887336041774107 : True := trivial
theorem PySem.W.Fast.tw4987626907664566787 : True := trivial
theorem PySem.W.Fast.tw11649259288950053003 : True := trivial
theorem PySem.W.Fast.tw6481156331897612613 : True := trivial
theorem PySem.W.Fast.tw14987491737320258368 : True := trivial
theorem PySem.W.Fast.tw17793055429905963787 : True := trivial
theorem PySem.W.Fast.tw2681887628090894581 : True := trivial
theorem PySem.W.Fast.tw12399711060499126289 : True := trivial
theorem PySem.W.Fast.tw15862659424858857737 : True := trivial
theorem PySem.W.Fast.tw17495507162292977997 : True := trivial
theorem PySem.W.Fast.tw3786641058429985188 : True := trivial
theorem PySem.W.Fast.tw6983440540459162623 : True := trivial
theorem PySem.W.Fast.tw666131820722888941 : True := trivial
theorem PySem.W.Fast.tw17537262093012473705 : True := trivial
section
open PySem PySem.W PyProof.Rows
open_top rtTop for PySem.Challenge.rw_retryhall_k04_parts_shown_and_long
end
set_option Elab.async false
set_option linter.all false
set_option maxRecDepth 100000
set_option maxHeartbeats 2000000
namespace RT
open PySem L2
abbrev Ex := Evl.Ex
structure Ad where
  K : PySem.W.Frag
  cPart : Addr := 0
  cLet : Addr := 0
  cReckon : Addr := 0
  cTake : Addr := 0
  cPut : Addr := 0
  cIf : Addr := 0
  cEither : Addr := 0
  cTry : Addr := 0
  cThrow : Addr := 0
  cWait : Addr := 0
  cLog : Addr := 0
  cDoer : Addr := 0
  cHand : Addr := 0
  cHall : Addr := 0
  cDesk : Addr := 0
  cHallError : Addr := 0
  cNoDeed : Addr := 0
  cNoBoxes : Addr := 0
  cNoHands : Addr := 0
  cNoHand : Addr := 0
  cNoRow : Addr := 0
  aSUMS : Addr := 0
def spLaw (K : PySem.W.Frag) : Sp := fun vs H Q _ => ∃ (a : Addr) (ns : List Int), vs = [.ref a] ∧ SqL K H a (ns.map V.int) ∧ ns.length ≤ 63 ∧ ∀ H', Q (.bl true) H'
@[irreducible] def dB (p : Prop) [Decidable p] : Bool := decide p
theorem dB_eq (p : Prop) [Decidable p] : dB p = decide p := by unfold dB; rfl
theorem dB_t {p : Prop} [Decidable p] (h : p) : dB p = true := by rw [dB_eq]; exact decide_eq_true h
theorem dB_f {p : Prop} [Decidable p] (h : ¬ p) : dB p = false := by rw [dB_eq]; exact decide_eq_false h
theorem nB_t {p : Prop} [Decidable p] (h : ¬ p) : (!dB p) = true := by rw [dB_f h]; rfl
theorem nB_f {p : Prop} [Decidable p] (h : p) : (!dB p) = false := by rw [dB_t h]; rfl
abbrev aAdd := tOp (rI0 fun i j => V.int (i + j))
abbrev aSub := tOp (rI0 fun i j => V.int (i - j))
abbrev aMul := tOp (rI CMul fun i j => V.int (i * j))
abbrev aMod := tOp (rI (fun _ j => 0 < j) fun i j => V.int (i % j))
abbrev aDiv := tOp (rI CDiv fun i j => V.int (i / j))
abbrev aPow := tOp (rI CPow fun i j => V.int (i ^ j.toNat))
def rAddS : R2 := fun x y H Q => ∃ i j, x = .str i ∧ y = .str j ∧ i.length + j.length ≤ sizeLine ∧ Q (.str (i ++ j)) H
abbrev aAddS := tOp rAddS
abbrev aRep := tOp rRep
def rLt : R2 := rI0 fun i j => V.bl (dB (i < j))
def rLe : R2 := rI0 fun i j => V.bl (dB (i ≤ j))
def rGt : R2 := rI0 fun i j => V.bl (dB (j < i))
def rGe : R2 := rI0 fun i j => V.bl (dB (j ≤ i))
def rLtS : R2 := fun x y H Q => ∃ i j, x = .str i ∧ y = .str j ∧ Q (.bl (dB (i.cps.toList < j.cps.toList))) H
def rLeS : R2 := fun x y H Q => ∃ i j, x = .str i ∧ y = .str j ∧ Q (.bl (!dB (j.cps.toList < i.cps.toList))) H
def rGtS : R2 := fun x y H Q => ∃ i j, x = .str i ∧ y = .str j ∧ Q (.bl (dB (j.cps.toList < i.cps.toList))) H
def rGeS : R2 := fun x y H Q => ∃ i j, x = .str i ∧ y = .str j ∧ Q (.bl (!dB (i.cps.toList < j.cps.toList))) H
def rLenStr : List V → Hp → VK → Prop := fun xs H Q => ∃ x, xs = [.str x] ∧ x.length ≤ sizeLine ∧ Q (.int (x.length : Nat)) H
def rInt1 : List V → Hp → VK → Prop := fun xs H Q => (∃ i, xs = [.int i] ∧ Q (.int i) H) ∨ ∃ k, xs = [.bl k] ∧ Q (.int (if k then 1 else 0)) H
def rStrI : List V → Hp → VK → Prop := fun xs H Q => ∃ i, xs = [.int i] ∧ i.natAbs.log2 < 1920 ∧ Q (.str (toString i)) H
def rMin2 : List V → Hp → VK → Prop := fun xs H Q => ∃ i j, xs = [.int i, .int j] ∧ Q (.int (if j < i then j else i)) H
def rListOf (K : PySem.W.Frag) : List V → Hp → VK → Prop := fun xs H Q => ∃ p ys, xs = [.ref p] ∧ (SqL K H p ys ∨ SqT K H p ys) ∧ ∀ l, H l = none → Q (.ref l) (upd H l (.lst ys))
def rJoin (K : PySem.W.Frag) : V → List V → Hp → VK → Prop := (fun x xs H Q => ∃ a p, ∃ ys : List Str, x = .str a ∧ xs = [.ref p] ∧ (SqL K H p (ys.map V.str) ∨ SqT K H p (ys.map V.str)) ∧ (ys.map (·.length)).sum + ys.length * a.length ≤ 16777216 ∧ Q (.str (Txt.join a ys)) H)
abbrev aJoin (K : PySem.W.Frag) := tM1 (rJoin K)
section
variable {X : Cx}
theorem o_gt : OpR X (compareOp .Gt) rGt := by unfold rGt; simp only [dB_eq]; exact op_gt
end
theorem kit_int_int : kitB "int" "int" = some true := by decide +kernel
theorem kit_int_bool : kitB "int" "bool" = some false := by decide +kernel
theorem kit_int_str : kitB "int" "str" = some false := by decide +kernel
theorem kit_int_list : kitB "int" "list" = some false := by decide +kernel
theorem kit_int_tuple : kitB "int" "tuple" = some false := by decide +kernel
theorem kit_int_dict : kitB "int" "dict" = some false := by decide +kernel
theorem kit_bool_int : kitB "bool" "int" = some true := by decide +kernel
theorem kit_bool_bool : kitB "bool" "bool" = some true := by decide +kernel
theorem kit_bool_str : kitB "bool" "str" = some false := by decide +kernel
theorem kit_bool_list : kitB "bool" "list" = some false := by decide +kernel
theorem kit_bool_tuple : kitB "bool" "tuple" = some false := by decide +kernel
theorem kit_bool_dict : kitB "bool" "dict" = some false := by decide +kernel
theorem kit_str_int : kitB "str" "int" = some false := by decide +kernel
theorem kit_str_bool : kitB "str" "bool" = some false := by decide +kernel
theorem kit_str_str : kitB "str" "str" = some true := by decide +kernel
theorem kit_str_list : kitB "str" "list" = some false := by decide +kernel
theorem kit_str_tuple : kitB "str" "tuple" = some false := by decide +kernel
theorem kit_str_dict : kitB "str" "dict" = some false := by decide +kernel
theorem kit_NoneType_int : kitB "NoneType" "int" = some false := by decide +kernel
theorem kit_NoneType_bool : kitB "NoneType" "bool" = some false := by decide +kernel
theorem kit_NoneType_str : kitB "NoneType" "str" = some false := by decide +kernel
theorem kit_NoneType_list : kitB "NoneType" "list" = some false := by decide +kernel
theorem kit_NoneType_tuple : kitB "NoneType" "tuple" = some false := by decide +kernel
theorem kit_NoneType_dict : kitB "NoneType" "dict" = some false := by decide +kernel
theorem kit_list_int : kitB "list" "int" = some false := by decide +kernel
theorem kit_list_bool : kitB "list" "bool" = some false := by decide +kernel
theorem kit_list_str : kitB "list" "str" = some false := by decide +kernel
theorem kit_list_list : kitB "list" "list" = some true := by decide +kernel
theorem kit_list_tuple : kitB "list" "tuple" = some false := by decide +kernel
theorem kit_list_dict : kitB "list" "dict" = some false := by decide +kernel
theorem kit_tuple_int : kitB "tuple" "int" = some false := by decide +kernel
theorem kit_tuple_bool : kitB "tuple" "bool" = some false := by decide +kernel
theorem kit_tuple_str : kitB "tuple" "str" = some false := by decide +kernel
theorem kit_tuple_list : kitB "tuple" "list" = some false := by decide +kernel
theorem kit_tuple_tuple : kitB "tuple" "tuple" = some true := by decide +kernel
theorem kit_tuple_dict : kitB "tuple" "dict" = some false := by decide +kernel
theorem kit_dict_int : kitB "dict" "int" = some false := by decide +kernel
theorem kit_dict_bool : kitB "dict" "bool" = some false := by decide +kernel
theorem kit_dict_str : kitB "dict" "str" = some false := by decide +kernel
theorem kit_dict_list : kitB "dict" "list" = some false := by decide +kernel
theorem kit_dict_tuple : kitB "dict" "tuple" = some false := by decide +kernel
theorem kit_dict_dict : kitB "dict" "dict" = some true := by decide +kernel
section
variable {K : PySem.W.Frag} {σ σ' : L2.St} {H H' : Hp} {ta tb te tx : TE} {x y z v : V} {r : R2} {Q : VK} {D : Ends} {t u c : TT} {ts tu tw : TS} {g : TG} {i j : Nat}
theorem w_var (h : σ[i]? = some (some v)) (q : Q v H) : tVar i σ H Q := ⟨v, h, q⟩
theorem w_c (q : Q v H) : tC v σ H Q := q
theorem w_op (q : ta σ H fun x H1 => tb σ H1 fun y H2 => r x y H2 Q) : tOp r ta tb σ H Q := q
theorem w_un {r : V → Hp → VK → Prop} (q : ta σ H fun x H1 => r x H1 Q) : tUn r ta σ H Q := q
theorem w_i0 {f : Int → Int → V} {a b : Int} (q : Q (f a b) H) : rI0 f (.int a) (.int b) H Q := ⟨a, b, rfl, rfl, q⟩
theorem w_i {C : Int → Int → Prop} {f : Int → Int → V} {a b : Int} (hc : C a b) (q : Q (f a b) H) : rI C f (.int a) (.int b) H Q := ⟨a, b, rfl, rfl, hc, q⟩
theorem w_u {f : Int → V} {a : Int} (q : Q (f a) H) : rU f (.int a) H Q := ⟨a, rfl, q⟩
theorem w_eqI {a b : Int} (q : Q (.bl (dB (a = b))) H) : rEq (.int a) (.int b) H Q := ⟨rfl, by simpa [dB_eq] using q⟩
theorem w_neI {a b : Int} (q : Q (.bl (!dB (a = b))) H) : rNe (.int a) (.int b) H Q := ⟨rfl, by simpa [dB_eq] using q⟩
theorem w_eqS {a b : Str} (q : Q (.bl (dB (a = b))) H) : rEq (.str a) (.str b) H Q := ⟨rfl, by simpa [dB_eq] using q⟩
theorem w_neS {a b : Str} (q : Q (.bl (!dB (a = b))) H) : rNe (.str a) (.str b) H Q := ⟨rfl, by simpa [dB_eq] using q⟩
theorem w_isNN (q : Q (.bl true) H) : rIsN .non .non H Q := ⟨rfl, q⟩
theorem w_isNI {a : Int} (q : Q (.bl false) H) : rIsN (.int a) .non H Q := ⟨rfl, q⟩
theorem w_isNS {a : Str} (q : Q (.bl false) H) : rIsN (.str a) .non H Q := ⟨rfl, q⟩
theorem w_isNR {a : Addr} (q : Q (.bl false) H) : rIsN (.ref a) .non H Q := ⟨rfl, q⟩
theorem w_notNN (q : Q (.bl false) H) : rNotN .non .non H Q := ⟨rfl, q⟩
theorem w_notNI {a : Int} (q : Q (.bl true) H) : rNotN (.int a) .non H Q := ⟨rfl, q⟩
theorem w_notNS {a : Str} (q : Q (.bl true) H) : rNotN (.str a) .non H Q := ⟨rfl, q⟩
theorem w_notNR {a : Addr} (q : Q (.bl true) H) : rNotN (.ref a) .non H Q := ⟨rfl, q⟩

theorem w_lt {a b : Int} (q : Q (.bl (dB (a < b))) H) : rLt (.int a) (.int b) H Q := ⟨a, b, rfl, rfl, q⟩
theorem w_le {a b : Int} (q : Q (.bl (dB (a ≤ b))) H) : rLe (.int a) (.int b) H Q := ⟨a, b, rfl, rfl, q⟩
theorem w_gt {a b : Int} (q : Q (.bl (dB (b < a))) H) : rGt (.int a) (.int b) H Q := ⟨a, b, rfl, rfl, q⟩
theorem w_ge {a b : Int} (q : Q (.bl (dB (b ≤ a))) H) : rGe (.int a) (.int b) H Q := ⟨a, b, rfl, rfl, q⟩
theorem w_ltS {a b : Str} (q : Q (.bl (dB (a.cps.toList < b.cps.toList))) H) : rLtS (.str a) (.str b) H Q := ⟨a, b, rfl, rfl, q⟩
theorem w_leS {a b : Str} (q : Q (.bl (!dB (b.cps.toList < a.cps.toList))) H) : rLeS (.str a) (.str b) H Q := ⟨a, b, rfl, rfl, q⟩
theorem w_gtS {a b : Str} (q : Q (.bl (dB (b.cps.toList < a.cps.toList))) H) : rGtS (.str a) (.str b) H Q := ⟨a, b, rfl, rfl, q⟩
theorem w_geS {a b : Str} (q : Q (.bl (!dB (a.cps.toList < b.cps.toList))) H) : rGeS (.str a) (.str b) H Q := ⟨a, b, rfl, rfl, q⟩
theorem w_addS {a b : Str} (h : a.length + b.length ≤ sizeLine) (q : Q (.str (a ++ b)) H) : rAddS (.str a) (.str b) H Q := ⟨a, b, rfl, rfl, h, q⟩
theorem w_inS {c : Nat} {w : Str} (q : Q (.bl (dB (c ∈ w.cps.toList))) H) : rInS (.str ⟨#[c]⟩) (.str w) H Q := ⟨c, w, rfl, rfl, by rw [← dB_eq]; exact q⟩
theorem w_ninS {c : Nat} {w : Str} (q : Q (.bl (!dB (c ∈ w.cps.toList))) H) : rNotInS (.str ⟨#[c]⟩) (.str w) H Q := ⟨c, w, rfl, rfl, by rw [← dB_eq]; exact q⟩
theorem w_test {Q : Bool → Hp → Prop} (q : te σ H fun x H' => ∃ k, x = .bl k ∧ Q k H') : tTest te σ H Q := q
theorem w_tB {Q : Bool → Hp → Prop} (q : te σ H fun x H' => ∃ k, x = .bl k ∧ Q k H') : tB te σ H Q := q
theorem w_tru {Q : Bool → Hp → Prop} (q : te σ H fun x H' => ∃ k, TruV K x H' k ∧ Q k H') : tTru K te σ H Q := q
theorem w_bl {P : Bool → Prop} {b : Bool} (q : P b) : ∃ k, V.bl b = .bl k ∧ P k := ⟨b, rfl, q⟩
theorem w_int {P : Int → Prop} {b : Int} (q : P b) : ∃ k, V.int b = .int k ∧ P k := ⟨b, rfl, q⟩
theorem w_ref {P : Addr → Prop} {b : Addr} (q : P b) : ∃ k, V.ref b = .ref k ∧ P k := ⟨b, rfl, q⟩
theorem w_str {P : Str → Prop} {b : Str} (q : P b) : ∃ k, V.str b = .str k ∧ P k := ⟨b, rfl, q⟩
theorem w_and {Q : Bool → Hp → Prop} (q : t σ H fun c H1 => if c = true then u σ H1 Q else Q false H1) : tAnd t u σ H Q := q
theorem w_or {Q : Bool → Hp → Prop} (q : t σ H fun c H1 => if c = true then Q true H1 else u σ H1 Q) : tOr t u σ H Q := q
theorem w_not {Q : Bool → Hp → Prop} (q : t σ H fun c H1 => Q (!c) H1) : tNot t σ H Q := q
theorem w_andV (q : ta σ H fun x H1 => ∃ c, x = .bl c ∧ if c = true then tb σ H1 Q else Q (.bl false) H1) : tAndV ta tb σ H Q := q
theorem w_orV (q : ta σ H fun x H1 => ∃ c, x = .bl c ∧ if c = true then Q (.bl true) H1 else tb σ H1 Q) : tOrV ta tb σ H Q := q
theorem w_notV (q : ta σ H fun x H1 => ∃ c, x = .bl c ∧ Q (.bl (!c)) H1) : tNotV ta σ H Q := q
theorem w_ifE (q : t σ H fun c H1 => if c = true then ta σ H1 Q else tb σ H1 Q) : tIf t ta tb σ H Q := q
theorem w_chain {r r' : R2} {tc : TE} (q : ta σ H fun x H1 => tb σ H1 fun y H2 => r x y H2 fun z H3 => ∃ k, z = .bl k ∧ (if k = true then tc σ H3 fun w' H4 => r' y w' H4 Q else Q (.bl false) H3)) : tChain r r' ta tb tc σ H Q := q
theorem w_dec {p A B : Prop} [Decidable p] (h1 : p → A) (h2 : ¬ p → B) : if dB p = true then A else B := by
  by_cases h : p
  · rw [if_pos (dB_t h)]; exact h1 h
  · rw [if_neg (by rw [dB_f h]; exact Bool.false_ne_true)]; exact h2 h
theorem w_ndec {p A B : Prop} [Decidable p] (h1 : ¬ p → A) (h2 : p → B) : if (!dB p) = true then A else B := by
  by_cases h : p
  · rw [if_neg (by rw [dB_t h]; exact Bool.false_ne_true)]; exact h2 h
  · rw [if_pos (by rw [dB_f h]; rfl)]; exact h1 h
theorem w_bool {b : Bool} {A B : Prop} (h1 : b = true → A) (h2 : b = false → B) : if b = true then A else B := by
  cases b with
  | true => exact h1 rfl
  | false => exact h2 rfl
theorem w_tt {b : Bool} {A B : Prop} (e : b = true) (h : A) : if b = true then A else B := by rw [if_pos e]; exact h
theorem w_ff {b : Bool} {A B : Prop} (e : b = false) (h : B) : if b = true then A else B := by rw [if_neg (by rw [e]; exact Bool.false_ne_true)]; exact h
theorem w_ttL {A B : Prop} (h : A) : if true = true then A else B := iteT h
theorem w_ffL {A B : Prop} (h : B) : if false = true then A else B := iteF h
theorem w_seq (q : ts { D with nx := tu D } σ H) : tSeq ts tu D σ H := q
theorem w_next (q : D.nx σ H) : tNext D σ H := q
theorem w_brk (q : D.bk σ H) : tBreak D σ H := q
theorem w_cont (q : D.ct σ H) : tCont D σ H := q
theorem w_asg (q : te σ H fun x H1 => g x σ H1 D.nx) : tAsg te g D σ H := q
theorem w_gn {Q : L2.St → Hp → Prop} (e : σ.set i (some v) = σ') (q : Q σ' H) : gName i v σ H Q := by subst e; exact q
theorem w_drop (q : te σ H fun _ H1 => D.nx σ H1) : tDrop te D σ H := q
theorem w_ret (q : te σ H D.rt) : tRet te D σ H := q
theorem w_retN (q : D.rt .non H) : tRetN D σ H := q
theorem w_ifS (q : c σ H fun b H1 => if b = true then ts D σ H1 else tu D σ H1) : tIfS c ts tu D σ H := q
theorem w_aug {ti : TIp} (h : σ[i]? = some (some x)) (q : te σ H fun y H1 => ti x y H1 fun z H2 => D.nx (σ.set i (some z)) H2) : tAug i te ti D σ H := ⟨x, h, q⟩
theorem w_ip {f : Int → Int → Int} {a b : Int} (q : Q (.int (f a b)) H) : ipI f (.int a) (.int b) H Q := ⟨a, b, rfl, rfl, q⟩
theorem w_par {ta : TA} (q : ta σ H fun vs H1 => ∃ v w, vs = [v, w] ∧ D.nx ((σ.set i (some v)).set j (some w)) H1) : tPar i j ta D σ H := q
theorem w_v2 {P : V → V → Prop} (q : P x y) : ∃ v w, [x, y] = [v, w] ∧ P v w := ⟨x, y, rfl, q⟩
theorem w_nil {Q : List V → Hp → Prop} (q : Q [] H) : tNil σ H Q := q
theorem w_cons {tr : TA} {Q : List V → Hp → Prop} (q : ta σ H fun x H1 => tr σ H1 fun xs H2 => Q (x :: xs) H2) : tCons ta tr σ H Q := q
theorem w_call {sp : Sp} {E : XK} {t : TA} (q : t σ H fun vs H1 => sp vs H1 Q E) : tCall sp [] E t σ H Q := by
  unfold tCall
  simp only [List.append_nil]
  exact q
theorem w_cb {r : List V → Hp → VK → Prop} {t : TA} (q : t σ H fun vs H1 => r vs H1 Q) : tCB r t σ H Q := q
def rMeth (C : Addr) (m : Str) (sp : Sp) (E : XK) (t : TA) (σ : L2.St) (x : V) (H : Hp) (Q : VK) : Prop := ∃ a dx fs, x = .ref a ∧ H a = some (.ins C dx fs) ∧ fs.lookup m = none ∧ t σ H fun vs H2 => sp (x :: vs) H2 Q E
theorem w_meth {C : Addr} {m : Str} {sp : Sp} {E : XK} {t : TA} (q : ta σ H fun x H1 => rMeth C m sp E t σ x H1 Q) : tMeth C m sp [] E ta t σ H Q := by
  unfold tMeth
  simp only [List.append_nil]
  exact q
theorem w_meth1 {C p dx : Addr} {m : Str} {sp : Sp} {E : XK} {t : TA} {fs : List (Str × V)} (h : H p = some (.ins C dx fs)) (l : fs.lookup m = none) (q : t σ H fun vs H2 => sp (.ref p :: vs) H2 Q E) : rMeth C m sp E t σ (.ref p) H Q := ⟨p, dx, fs, rfl, h, l, q⟩
theorem w_make {C : Addr} {sp : Sp} {E : XK} {t : TA} (q : t σ H fun vs H1 => ∀ x dx, H1 x = none → H1 dx = none → dx ≠ x → sp (.ref x :: vs) (upd (upd H1 dx (.own x)) x (.ins C dx [])) (fun v H2 => v = .non ∧ Q (.ref x) H2) E) : tMake C sp [] E t σ H Q := by
  unfold tMake
  simp only [List.append_nil]
  exact q
theorem w_int1 {a : Int} (q : Q (.int a) H) : rInt1 [.int a] H Q := .inl ⟨a, rfl, q⟩
theorem w_int1b {k : Bool} (q : Q (.int (if k then 1 else 0)) H) : rInt1 [.bl k] H Q := .inr ⟨k, rfl, q⟩
theorem w_lenStr {x : Str} (h : x.length ≤ sizeLine) (q : Q (.int (x.length : Nat)) H) : rLenStr [.str x] H Q := ⟨x, rfl, h, q⟩
theorem w_lenS {p : Addr} {xs : List V} (h : SqL K H p xs) (q : Q (.int xs.length) H) : Evl.rLenS K [.ref p] H Q := ⟨p, xs, rfl, .inl h, q⟩
theorem w_lenT {p : Addr} {xs : List V} (h : SqT K H p xs) (q : Q (.int xs.length) H) : Evl.rLenS K [.ref p] H Q := ⟨p, xs, rfl, .inr h, q⟩
theorem w_max2 {a b : Int} (q : Q (.int (if b > a then b else a)) H) : Evl.rMax2 [.int a, .int b] H Q := ⟨a, b, rfl, q⟩
theorem w_min2 {a b : Int} (q : Q (.int (if b < a then b else a)) H) : rMin2 [.int a, .int b] H Q := ⟨a, b, rfl, q⟩
theorem w_isi {c : V} {t u : Value} {b : Bool} (k : ClsV c u) (ty : TyX K H x t) (e : PySem.W.kitOne K t u = some b) (q : Q (.bl b) H) : rIsi K [x, c] H Q := ⟨x, c, t, u, b, rfl, k, ty, e, q⟩
theorem w_isiI {n : String} {b : Bool} {a : Int} (e : kitB "int" n = some b) (q : Q (.bl b) H) : rIsi K [.int a, .ty n] H Q := w_isi (.ty n) (.base (.int a)) (kit_ty e) q
theorem w_isiB {n : String} {b : Bool} {a : Bool} (e : kitB "bool" n = some b) (q : Q (.bl b) H) : rIsi K [.bl a, .ty n] H Q := w_isi (.ty n) (.base (.bl a)) (kit_ty e) q
theorem w_isiN {n : String} {b : Bool} (e : kitB "NoneType" n = some b) (q : Q (.bl b) H) : rIsi K [.non, .ty n] H Q := w_isi (.ty n) (.base .non) (kit_ty e) q
theorem w_isiS {n : String} {b : Bool} {a : Str} (e : kitB "str" n = some b) (q : Q (.bl b) H) : rIsi K [.str a, .ty n] H Q := w_isi (.ty n) (.base (.str a)) (kit_ty e) q
theorem w_tup {t : TA} (q : t σ H fun xs H1 => xs.length ≤ sizeLine ∧ ∀ p, H1 p = none → Q (.ref p) (upd H1 p (.tup xs))) : tTup t σ H Q := q
theorem w_lst {t : TA} (q : t σ H fun xs H1 => xs.length ≤ sizeLine ∧ ∀ p, H1 p = none → Q (.ref p) (upd H1 p (.lst xs))) : tLst t σ H Q := q
theorem w_sz {n : Nat} {B : Prop} (h : n ≤ sizeLine) (q : B) : n ≤ sizeLine ∧ B := ⟨h, q⟩
theorem w_dnew (q : ∀ p, H p = none → Q (.ref p) (upd H p (.dK []))) : tDNewK σ H Q := q
theorem ex_at {a : Addr} {o : HO} (e : Ex H H') (h : H a = some o) : H' a = some o := e a o h
theorem ex_sq {a : Addr} {xs : List V} (e : Ex H H') (h : SqL K H a xs) : SqL K H' a xs := Evl.ex_l e h
theorem ex_st {a : Addr} {xs : List V} (e : Ex H H') (h : SqT K H a xs) : SqT K H' a xs := Evl.ex_t e h
theorem new_ex {p : Addr} {o : HO} (h : H p = none) (e : upd H p o = H') : Ex H H' := e ▸ Evl.Ex.new h
theorem new_at {p : Addr} {o : HO} (e : upd H p o = H') : H' p = some o := e ▸ upd_same
theorem ex_free {a : Addr} (e : Ex H H') (h : H' a = none) : H a = none := Evl.fresh_back e h
theorem w_ixL {p : Addr} {xs : List V} {i : Int} (h : SqL K H p xs) (a : atI xs i = some v) (q : Q v H) : rIxL K (.ref p) (.int i) H Q := ⟨p, xs, i, v, rfl, rfl, h, a, q⟩
theorem w_ixT {p : Addr} {xs : List V} {i : Int} (h : SqT K H p xs) (a : atI xs i = some v) (q : Q v H) : rIxT K (.ref p) (.int i) H Q := ⟨p, xs, i, v, rfl, rfl, h, a, q⟩
theorem w_ixS {z : Str} {i : Int} {c : Nat} (h : z.length ≤ sizeLine) (a : atI z.cps.toList i = some c) (q : Q (.str ⟨#[c]⟩) H) : rIxS (.str z) (.int i) H Q := ⟨z, i, c, rfl, rfl, h, a, q⟩
theorem w_sl {r : V → Option Int → Option Int → Hp → VK → Prop} {tl th : TO} (q : te σ H fun x H1 => tl σ H1 fun l H2 => th σ H2 fun u H3 => r x l u H3 Q) : tSl r te tl th σ H Q := q
theorem w_noPart {Q : Option Int → Hp → Prop} (q : Q none H) : tNoPart σ H Q := q
theorem w_part {Q : Option Int → Hp → Prop} (q : te σ H fun x H1 => ∃ i, x = .int i ∧ Q (some i) H1) : tPart te σ H Q := q
theorem w_slL {p : Addr} {xs : List V} {lo hi : Option Int} (h : SqL K H p xs) (q : ∀ l, H l = none → Q (.ref l) (upd H l (.lst (cutV xs lo hi)))) : rSlL K (.ref p) lo hi H Q := ⟨p, xs, rfl, h, q⟩
theorem w_slS {z : Str} {lo hi : Option Int} (h : z.length ≤ sizeLine) (q : Q (.str (cutS z lo hi)) H) : rSlS (.str z) lo hi H Q := ⟨z, rfl, h, q⟩
theorem w_cat {l b : Addr} {xs zs : List V} (h1 : H l = some (.lst xs)) (h2 : H b = some (.lst zs)) (hl : xs.length + zs.length ≤ sizeLine) (q : ∀ p, H p = none → Q (.ref p) (upd H p (.lst (xs ++ zs)))) : rCat (.ref l) (.ref b) H Q := ⟨l, b, xs, zs, rfl, rfl, h1, h2, hl, q⟩
theorem w_for {wi : TI} (q : wi σ H fun J H1 => ∃ W : Nat → Nat → L2.St → Hp → Prop, (∃ m, W 0 m σ H1) ∧ ∀ i m σ H, W i m σ H →
  (J.stop i H ∧ D.nx σ H) ∨ (J.go i H ∧ ∃ N : L2.St → Hp → Prop, (∀ σ' H', N σ' H' → ∃ m', m' < m ∧ W (i + 1) m' σ' H') ∧ ∀ x H', J.yld i H x H' → g x σ H' fun σ2 H2 => ts { D with nx := N, ct := N, bk := D.nx } σ2 H2)) : tFor wi g ts D σ H := q
theorem w_iList {R : It → Hp → Prop} (q : te σ H fun x H1 => ∃ a, x = .ref a ∧ (∃ xs, SqL K H1 a xs) ∧ R (Itl K a) H1) : iList K te σ H R := q
theorem w_iTup {R : It → Hp → Prop} (q : te σ H fun x H1 => ∃ a, x = .ref a ∧ (∃ xs, SqT K H1 a xs) ∧ R (Itt K a) H1) : iTup K te σ H R := q
theorem w_iStr {R : It → Hp → Prop} (q : te σ H fun v H1 => ∃ x, v = .str x ∧ R (Its x) H1) : iStr te σ H R := q
theorem w_iRng1 {ta : TA} {R : It → Hp → Prop} (q : ta σ H fun vs H1 => ∃ j : Int, vs = [.int j] ∧ -(2 ^ 62) ≤ j ∧ j < 2 ^ 62 ∧ R (Itr 0 j.toNat) H1) : iRng1 ta σ H R := q
theorem w_iRng2 {ta : TA} {R : It → Hp → Prop} (q : ta σ H fun vs H1 => ∃ i j : Int, vs = [.int i, .int j] ∧ (-(2 ^ 62) ≤ i ∧ i < 2 ^ 62 ∧ -(2 ^ 62) ≤ j ∧ j < 2 ^ 62) ∧ R (Itr i (j - i).toNat) H1) : iRng2 ta σ H R := q
theorem w_v1I {P : Int → Prop} {n : Int} (q : P n) : ∃ j, [V.int n] = [.int j] ∧ P j := ⟨n, rfl, q⟩
theorem w_v2I {P : Int → Int → Prop} {n m : Int} (q : P n m) : ∃ i j, [V.int n, .int m] = [.int i, .int j] ∧ P i j := ⟨n, m, rfl, q⟩
theorem w_eqD {d1 d2 : PyData} {b : Bool} (h1 : Dp K H x d1) (h2 : Dp K H y d2) (s1 : SeqAt.shaped d1 = true) (s2 : SeqAt.shaped d2 = true) (e : PyData.eqv d1 d2 = b) (q : Q (.bl b) H) : rEqD K x y H Q := ⟨d1, d2, h1, h2, s1, s2, e ▸ q⟩
theorem eqv_self {d : PyData} (h : SeqAt.shaped d = true) : PyData.eqv d d = true := by
  unfold SeqAt.shaped at h
  exact SeqAt.eqv_refl d (by simp at h; exact h.1)
theorem w_lc {wi : TI} {vs : List Nat} (q : wi σ H fun J H1 => ∀ D, H1 D = none → ∃ W : Nat → Nat → Hp → Prop, (∃ m, W 0 m (upd H1 D (.lst []))) ∧ ∀ i m H, W i m H →
  (J.stop i H ∧ Q (.ref D) H) ∨ (J.go i H ∧ ∃ Nx : Hp → Prop, (∀ H', Nx H' → ∃ m', m' < m ∧ W (i + 1) m' H') ∧ ∀ x H', J.yld i H x H' → g x (wipe σ vs) H' fun σ2 H2 => wipe σ2 vs = wipe σ vs ∧ t σ2 H2 fun b H3 =>
    if b = true then te σ2 H3 fun y H4 => ∃ acc, H4 D = some (.lst acc) ∧ acc.length < sizeLine ∧ Nx (upd H4 D (.lst (acc ++ [y]))) else Nx H3)) : tLc wi g t te vs σ H Q := q
theorem str_len_app (a b : Str) : (a ++ b).length = a.length + b.length := Array.size_append
theorem sign_len (c : Nat) : (⟨#[c]⟩ : Str).length = 1 := rfl
theorem w_m1 {r : V → List V → Hp → VK → Prop} (q : ta σ H fun x H1 => (∃ a, x = .str a) ∧ te σ H1 fun y H2 => r x [y] H2 Q) : tM1 r ta te σ H Q := q
theorem w_isS {a : Str} {B : Prop} (q : B) : (∃ b, V.str a = .str b) ∧ B := ⟨⟨a, rfl⟩, q⟩
theorem log_small {i : Int} (h0 : 0 ≤ i) (h : i < 2 ^ 1000) : i.natAbs.log2 < 1920 := by
  by_cases e : i.natAbs = 0
  · rw [e]; decide
  · rw [Nat.log2_lt e]
    have h1 : (i.natAbs : Int) = i := by omega
    have h2 : ((2 ^ 1000 : Nat) : Int) = (2 : Int) ^ 1000 := by norm_cast
    have h3 : i.natAbs < 2 ^ 1000 := by
      have : ((i.natAbs : Nat) : Int) < ((2 ^ 1000 : Nat) : Int) := by rw [h1, h2]; exact h
      exact Int.ofNat_lt.mp this
    exact Nat.lt_of_lt_of_le h3 (Nat.pow_le_pow_right (by decide) (by decide))
theorem w_strI {i : Int} (h : i.natAbs.log2 < 1920) (q : Q (.str (toString i)) H) : rStrI [.int i] H Q := ⟨i, rfl, h, q⟩
def rFld (K : PySem.W.Frag) (f : Str) (x : V) (H : Hp) (Q : VK) : Prop := ∃ a C dx fs v, x = .ref a ∧ H a = some (.ins C dx fs) ∧ Cls K C ∧ NoAttr K C f ∧ fs.lookup f = some v ∧ Q v H
theorem w_tFld {f : Str} (q : ta σ H fun x H1 => rFld K f x H1 Q) : tFld K ta f σ H Q := q
theorem w_fld {f : Str} {p C dx : Addr} {fs : List (Str × V)} (h : H p = some (.ins C dx fs)) (c : Cls K C) (n : NoAttr K C f) (l : fs.lookup f = some v) (q : Q v H) : rFld K f (.ref p) H Q := ⟨p, C, dx, fs, v, rfl, h, c, n, l, q⟩
def rSFld (K : PySem.W.Frag) (f : Str) (y x : V) (H : Hp) (R : Hp → Prop) : Prop := ∃ a C dx fs, x = .ref a ∧ H a = some (.ins C dx fs) ∧ Cls K C ∧ NoAttr K C f ∧ fs.length < 1000 ∧ R (upd H a (.ins C dx (putF f y fs)))
theorem w_sFld {f : Str} {tv : TE} (q : tv σ H fun y H1 => ta σ H1 fun x H2 => rSFld K f y x H2 fun H3 => D.nx σ H3) : sFld K ta tv f D σ H := q
theorem w_rsFld {f : Str} {p C dx : Addr} {fs fs' : List (Str × V)} {R : Hp → Prop} (h : H p = some (.ins C dx fs)) (c : Cls K C) (n : NoAttr K C f) (l : fs.length < 1000) (e : putF f y fs = fs') (q : R (upd H p (.ins C dx fs'))) : rSFld K f y (.ref p) H R :=
  ⟨p, C, dx, fs, rfl, h, c, n, l, e ▸ q⟩
def rDGet (x y : V) (H : Hp) (Q : VK) : Prop := ∃ a v, x = .ref a ∧ DGet H a y (some v) ∧ Q v H
theorem w_tDGet {td ty : TE} (q : td σ H fun x H1 => ty σ H1 fun y H2 => rDGet x y H2 Q) : tDGet td ty σ H Q := q
def rDIn (y x : V) (H : Hp) (Q : VK) : Prop := ∃ a o, x = .ref a ∧ DGet H a y o ∧ Q (.bl o.isSome) H
theorem w_tDIn {td ty : TE} (q : ty σ H fun y H1 => td σ H1 fun x H2 => rDIn y x H2 Q) : tDIn ty td σ H Q := q
theorem w_dinI {p : Addr} {kvs : List (Key × V)} {k : Int} (h : H p = some (.dK kvs)) (q : Q (.bl (valV kvs (.inl k)).isSome) H) : rDIn (.int k) (.ref p) H Q := ⟨p, _, rfl, DGet.k (k := .inl k) h, q⟩
def rDNotIn (y x : V) (H : Hp) (Q : VK) : Prop := ∃ a o, x = .ref a ∧ DGet H a y o ∧ Q (.bl (!o.isSome)) H
theorem w_tDNotIn {td ty : TE} (q : ty σ H fun y H1 => td σ H1 fun x H2 => rDNotIn y x H2 Q) : tDNotIn ty td σ H Q := q
def rDPut (v x y : V) (H : Hp) (R : Hp → Prop) : Prop := ∃ a H4, x = .ref a ∧ DPut H a y v H4 ∧ R H4
theorem w_sDPut {td ty tv : TE} (q : tv σ H fun v H1 => td σ H1 fun x H2 => ty σ H2 fun y H3 => rDPut v x y H3 fun H4 => D.nx σ H4) : sDPut td ty tv D σ H := q
theorem w_bm {T : String} {r : V → List V → Hp → VK → Prop} {t : TA} (q : te σ H fun x H1 => tyV K T x H1 ∧ t σ H1 fun xs H2 => r x xs H2 Q) : tBM K T r te t σ H Q := q
theorem w_bm0 {T : String} {r : V → List V → Hp → VK → Prop} (q : te σ H fun x H1 => tyV K T x H1 ∧ r x [] H1 Q) : tBM0 K T r te σ H Q := q
theorem w_tyL {p : Addr} {xs : List V} {B : Prop} (h : SqL K H p xs) (q : B) : tyV K "list" (.ref p) H ∧ B := ⟨.inl ⟨rfl, xs, h⟩, q⟩
theorem w_app {l : Addr} {xs : List V} (h : H l = some (.lst xs)) (hl : xs.length < sizeLine) (q : Q .non (upd H l (.lst (xs ++ [y])))) : rAppend (.ref l) [y] H Q := ⟨l, xs, y, rfl, rfl, h, hl, q⟩
theorem w_clr {l : Addr} {xs : List V} (h : H l = some (.lst xs)) (q : Q .non (upd H l (.lst []))) : rClear (.ref l) [] H Q := ⟨l, xs, rfl, rfl, h, q⟩
def rRev (K : PySem.W.Frag) (vs : List V) (H : Hp) (R : It → Hp → Prop) : Prop := ∃ (a : Addr) (xs : List V), vs = [.ref a] ∧ SqL K H a xs ∧ R (Itv K a xs.length) H
theorem w_iRev {ta : TA} {R : It → Hp → Prop} (q : ta σ H fun vs H1 => rRev K vs H1 R) : iRev K ta σ H R := q
theorem w_rev1 {p : Addr} {xs : List V} {R : It → Hp → Prop} (h : SqL K H p xs) (q : R (Itv K p xs.length) H) : rRev K [.ref p] H R := ⟨p, xs, rfl, h, q⟩
def rItems (x : V) (H : Hp) (R : It → Hp → Prop) : Prop := ∃ d o kvs, x = .ref d ∧ H d = some (.frz o (.dK kvs)) ∧ R (Iti d o kvs) H
theorem w_iItems {R : It → Hp → Prop} (q : te σ H fun x H1 => rItems x H1 R) : iItems te σ H R := q
def rKeys (x : V) (H : Hp) (R : It → Hp → Prop) : Prop := ∃ d o, x = .ref d ∧ ((∃ kvs, H d = some (.frz o (.dK kvs)) ∧ R (Itk d o kvs) H) ∨ ∃ kvs, H d = some (.frz o (.dT kvs)) ∧ R (Itkt d o kvs) H)
theorem w_iKeys {R : It → Hp → Prop} (q : te σ H fun x H1 => rKeys x H1 R) : iKeys te σ H R := q
def rRng3 (vs : List V) (H : Hp) (R : It → Hp → Prop) : Prop := ∃ (i j c : Int) (n : Nat), vs = [.int i, .int j, .int c] ∧ RgC i j c n ∧ R (Itc i c n) H
theorem w_iRng3 {ta : TA} {R : It → Hp → Prop} (q : ta σ H fun vs H1 => rRng3 vs H1 R) : iRng3 ta σ H R := q
def rZip (K : PySem.W.Frag) (vs : List V) (H : Hp) (R : It → Hp → Prop) : Prop := ∃ a b xs ys, vs = [.ref a, .ref b] ∧ SqL K H a xs ∧ SqL K H b ys ∧ R (Itz K a b) H
theorem w_iZip {ta : TA} {R : It → Hp → Prop} (q : ta σ H fun vs H1 => rZip K vs H1 R) : iZip K ta σ H R := q
theorem w_gCons {u : TGs} {x : V} {xs : List V} {Q : L2.St → Hp → Prop} (q : g x σ H fun σ' H' => u xs σ' H' Q) : gCons g u (x :: xs) σ H Q := ⟨x, xs, rfl, q⟩
theorem w_gNil {Q : L2.St → Hp → Prop} (q : Q σ H) : gNil [] σ H Q := ⟨rfl, q⟩
theorem w_gTup {n : Nat} {u : TGs} {p : Addr} {xs : List V} {Q : L2.St → Hp → Prop} (h : SqT K H p xs) (l : xs.length = n) (q : u xs σ H Q) : gTup K n u (.ref p) σ H Q := ⟨p, xs, rfl, h, l, q⟩
theorem ne2 {a b : Addr} {o : HO} (h' : H b = none) (h : H a = some o) : a ≠ b := ne_of_none h h'
theorem ne2s {a b : Addr} {o : HO} (h' : H b = none) (h : H a = some o) : b ≠ a := Ne.symm (ne_of_none h h')
theorem up_ne {a b : Addr} {o u : HO} (h : b ≠ a) (h2 : H b = some u) : upd H a o b = some u := by rw [upd_ne h]; exact h2
theorem ne_head {a b : Addr} {l : List Addr} (h : a ∉ b :: l) : a ≠ b := fun e => h (e ▸ List.mem_cons_self)
theorem putF_nil {f : Str} : putF f v [] = [(f, v)] := rfl
theorem putF_hit {f : Str} {w : V} {r : List (Str × V)} : putF f v ((f, w) :: r) = (f, v) :: r := by
  show (if f = f then _ else _) = _
  rw [if_pos rfl]
theorem putF_miss {f k : Str} {w : V} {r r' : List (Str × V)} (h : ¬ k = f) (e : putF f v r = r') : putF f v ((k, w) :: r) = (k, w) :: r' := by
  show (if k = f then _ else (k, w) :: putF f v r) = _
  rw [if_neg h, e]
theorem ty_list {p : Addr} {xs : List V} (h : SqL K H p xs) : TyX K H (.ref p) (.type "list") := by
  rcases h with (h | ⟨o, h⟩) | ⟨o, its, n, hk, hc, _⟩
  · exact .base (.lst h)
  · exact .base (.frz h)
  · exact .kList hk hc
theorem ty_tup {p : Addr} {xs : List V} (h : SqT K H p xs) : TyX K H (.ref p) (.type "tuple") := by
  rcases h with (h | ⟨o, h⟩) | ⟨o, its, n, hk, hc, _⟩
  · exact .base (.tup h)
  · exact .fTuple h
  · exact .kTuple hk hc
theorem w_isiSL {n : String} {b : Bool} {p : Addr} {xs : List V} (h : SqL K H p xs) (e : kitB "list" n = some b) (q : Q (.bl b) H) : rIsi K [.ref p, .ty n] H Q := w_isi (.ty n) (ty_list h) (kit_ty e) q
theorem w_isiST {n : String} {b : Bool} {p : Addr} {xs : List V} (h : SqT K H p xs) (e : kitB "tuple" n = some b) (q : Q (.bl b) H) : rIsi K [.ref p, .ty n] H Q := w_isi (.ty n) (ty_tup h) (kit_ty e) q
theorem fnok_no {P : Program} {w : World} {mg : Str → Option Value} {base : Heap} {CX : CXT} {k : Nat} {f : Addr} {fd : FuncData} {ps : List Str} {sp : Sp} (h : ∀ vs H Q E, ¬ sp vs H Q E) : FnOk P w K mg base CX k f fd ps sp :=
  ⟨fun vs H Q E q => (h vs H Q E q).elim, fun _ _ _ H _ _ vs Q E _ _ _ _ q => (h vs H Q E q).elim⟩
end
end RT

set_option Elab.async false
set_option linter.all false
set_option maxRecDepth 100000
set_option maxHeartbeats 2000000
set_option autoImplicit false
namespace RT
open PySem L2
local macro_rules | `(tactic| walk_at "putf") => `(tactic| first | exact putF_nil | exact putF_hit | exact putF_miss (by decide) (by walk_at "putf"))
local macro_rules | `(tactic| walk_at "ne") => `(tactic| first | assumption | exact Ne.symm (by assumption) | ((refine' ne2 ?h1 ?h2); (case h1 => assumption); (case h2 => walk_at "hk")) | ((refine' ne2s ?h1 ?h2); (case h1 => assumption); (case h2 => walk_at "hk")) | exact ne_head (by assumption) | exact ne_of (by assumption) (by assumption) (by intro z; cases z))
local macro_rules | `(tactic| walk_at "hk") => `(tactic| first | assumption | with_reducible exact upd_same | ((with_reducible refine' up_ne ?h1 ?h2); (case h1 => walk_at "ne"); (case h2 => walk_at "hk")) | ((with_reducible refine' ex_at ?h1 ?h2); (case h1 => assumption); (case h2 => walk_at "hk")))
local macro_rules | `(tactic| walk_at "kit") => `(tactic| first | exact kit_int_int | exact kit_int_bool | exact kit_int_str | exact kit_int_list | exact kit_int_tuple | exact kit_int_dict | exact kit_bool_int | exact kit_bool_bool | exact kit_bool_str | exact kit_bool_list | exact kit_bool_tuple | exact kit_bool_dict | exact kit_str_int | exact kit_str_bool | exact kit_str_str | exact kit_str_list | exact kit_str_tuple | exact kit_str_dict | exact kit_NoneType_int | exact kit_NoneType_bool | exact kit_NoneType_str | exact kit_NoneType_list | exact kit_NoneType_tuple | exact kit_NoneType_dict | exact kit_list_int | exact kit_list_bool | exact kit_list_str | exact kit_list_list | exact kit_list_tuple | exact kit_list_dict | exact kit_tuple_int | exact kit_tuple_bool | exact kit_tuple_str | exact kit_tuple_list | exact kit_tuple_tuple | exact kit_tuple_dict | exact kit_dict_int | exact kit_dict_bool | exact kit_dict_str | exact kit_dict_list | exact kit_dict_tuple | exact kit_dict_dict)
local macro_rules | `(tactic| walk_at "sq") => `(tactic| first | assumption | ((with_reducible refine' SqL.of ?h); (case h => walk_at "hk")) | ((with_reducible refine' ex_sq ?h1 ?h2); (case h1 => assumption); (case h2 => walk_at "sq")))
local macro_rules | `(tactic| walk_at "st") => `(tactic| first | assumption | ((with_reducible refine' SqT.of ?h); (case h => walk_at "hk")) | ((with_reducible refine' ex_st ?h1 ?h2); (case h1 => assumption); (case h2 => walk_at "st")))
local macro_rules | `(tactic| walk_at "new") => `(tactic| (intro p hp; generalize hU : upd _ p _ = H'; have e1 := new_ex hp hU; have e2 := new_at hU; clear hU))
local macro_rules | `(tactic| walk_at "small") => `(tactic| first | assumption | (rw [sizeLine_eq]; (try simp only [List.length_cons, List.length_nil, str_len_app, sign_len]); omega) | (with_unfolding_all decide))
local macro_rules | `(tactic| walk_at "step") => `(tactic| first | ((with_reducible refine' w_sz ?h ?_); (case h => walk_at "small")) | fail)
local macro_rules | `(tactic| walk_at "step") => `(tactic| first | ((with_reducible refine' w_lenStr ?h ?_); (case h => walk_at "small")) | ((with_reducible refine' w_slS ?h ?_); (case h => walk_at "small")) | fail)
local macro_rules | `(tactic| walk_at "step") => `(tactic| first | ((with_reducible refine' w_ixL ?h1 ?h2 ?_); (case h1 => walk_at "sq"); (case h2 => rfl)) | ((with_reducible refine' w_ixT ?h1 ?h2 ?_); (case h1 => walk_at "st"); (case h2 => rfl)) | fail)
local macro_rules | `(tactic| walk_at "step") => `(tactic| first | with_reducible refine' w_ip ?_ | ((with_reducible refine' w_cat ?h1 ?h2 ?h3 ?_); (case h1 => walk_at "hk"); (case h2 => walk_at "hk"); (case h3 => walk_at "small")) | fail)
local macro_rules | `(tactic| walk_at "step") => `(tactic| first | ((with_reducible refine' w_slL ?h ?_); (case h => walk_at "sq")) | ((with_reducible refine' w_aug ?h ?_); (case h => rfl)) | fail)
local macro_rules | `(tactic| walk_at "step") => `(tactic| first | ((with_reducible refine' w_lenS ?h ?_); (case h => walk_at "sq")) | ((with_reducible refine' w_lenT ?h ?_); (case h => walk_at "st")) | fail)
local macro_rules | `(tactic| walk_at "step") => `(tactic| first | ((with_reducible refine' w_tt ?h ?_); (case h => first | exact dB_t (by decide) | exact nB_t (by decide) | decide)) | ((with_reducible refine' w_ff ?h ?_); (case h => first | exact dB_f (by decide) | exact nB_f (by decide) | decide)) | fail)
local macro_rules | `(tactic| walk_at "step") => `(tactic| first | with_reducible refine' w_ttL ?_ | with_reducible refine' w_ffL ?_ | fail)
local macro_rules | `(tactic| walk_at "step") => `(tactic| first | ((with_reducible refine' w_isiST ?h ?e ?_); (case h => walk_at "st"); (case e => walk_at "kit")) | ((with_reducible refine' w_i ?h ?_); (case h => walk_at "sc")) | fail)
local macro_rules | `(tactic| walk_at "step") => `(tactic| first | ((with_reducible refine' w_isiS ?h ?_); (case h => walk_at "kit")) | ((with_reducible refine' w_isiSL ?h ?e ?_); (case h => walk_at "sq"); (case e => walk_at "kit")) | fail)
local macro_rules | `(tactic| walk_at "step") => `(tactic| first | ((with_reducible refine' w_isiB ?h ?_); (case h => walk_at "kit")) | ((with_reducible refine' w_isiN ?h ?_); (case h => walk_at "kit")) | fail)
local macro_rules | `(tactic| walk_at "step") => `(tactic| first | with_reducible refine' w_make ?_ | ((with_reducible refine' w_isiI ?h ?_); (case h => walk_at "kit")) | fail)
local macro_rules | `(tactic| walk_at "step") => `(tactic| first | with_reducible refine' w_meth ?_ | ((with_reducible refine' w_meth1 ?h ?l ?_); (case h => walk_at "hk"); (case l => rfl)) | fail)
local macro_rules | `(tactic| walk_at "step") => `(tactic| first | with_reducible refine' w_min2 ?_ | with_reducible refine' w_tru ?_ | fail)
local macro_rules | `(tactic| walk_at "step") => `(tactic| first | with_reducible refine' w_v2 ?_ | with_reducible refine' w_max2 ?_ | fail)
local macro_rules | `(tactic| walk_at "step") => `(tactic| first | with_reducible refine' w_ninS ?_ | with_reducible refine' w_par ?_ | fail)
local macro_rules | `(tactic| walk_at "step") => `(tactic| first | ((with_reducible refine' w_addS ?h ?_); (case h => walk_at "small")) | with_reducible refine' w_inS ?_ | fail)
local macro_rules | `(tactic| walk_at "step") => `(tactic| first | with_reducible refine' w_gtS ?_ | with_reducible refine' w_geS ?_ | fail)
local macro_rules | `(tactic| walk_at "step") => `(tactic| first | with_reducible refine' w_ltS ?_ | with_reducible refine' w_leS ?_ | fail)
local macro_rules | `(tactic| walk_at "step") => `(tactic| first | with_reducible refine' w_gt ?_ | with_reducible refine' w_ge ?_ | fail)
local macro_rules | `(tactic| walk_at "step") => `(tactic| first | with_reducible refine' w_lt ?_ | with_reducible refine' w_le ?_ | fail)
local macro_rules | `(tactic| walk_at "step") => `(tactic| first | with_reducible refine' w_cont ?_ | with_reducible refine' w_chain ?_ | fail)
local macro_rules | `(tactic| walk_at "step") => `(tactic| first | with_reducible refine' w_retN ?_ | with_reducible refine' w_brk ?_ | fail)
local macro_rules | `(tactic| walk_at "step") => `(tactic| first | with_reducible refine' w_noPart ?_ | with_reducible refine' w_part ?_ | fail)
local macro_rules | `(tactic| walk_at "step") => `(tactic| first | with_reducible refine' w_dnew ?_ | with_reducible refine' w_sl ?_ | fail)
local macro_rules | `(tactic| walk_at "step") => `(tactic| first | with_reducible refine' w_tup ?_ | with_reducible refine' w_lst ?_ | fail)
local macro_rules | `(tactic| walk_at "step") => `(tactic| first | with_reducible refine' w_int1 ?_ | with_reducible refine' w_int1b ?_ | fail)
local macro_rules | `(tactic| walk_at "step") => `(tactic| first | with_reducible refine' w_notNS ?_ | with_reducible refine' w_notNR ?_ | fail)
local macro_rules | `(tactic| walk_at "step") => `(tactic| first | with_reducible refine' w_notNN ?_ | with_reducible refine' w_notNI ?_ | fail)
local macro_rules | `(tactic| walk_at "step") => `(tactic| first | with_reducible refine' w_isNS ?_ | with_reducible refine' w_isNR ?_ | fail)
local macro_rules | `(tactic| walk_at "step") => `(tactic| first | with_reducible refine' w_isNN ?_ | with_reducible refine' w_isNI ?_ | fail)
local macro_rules | `(tactic| walk_at "step") => `(tactic| first | with_reducible refine' w_un ?_ | with_reducible refine' w_u ?_ | fail)
local macro_rules | `(tactic| walk_at "step") => `(tactic| first | with_reducible refine' w_ifE ?_ | with_reducible refine' w_drop ?_ | fail)
local macro_rules | `(tactic| walk_at "step") => `(tactic| first | with_reducible refine' w_orV ?_ | with_reducible refine' w_notV ?_ | fail)
local macro_rules | `(tactic| walk_at "step") => `(tactic| first | with_reducible refine' w_not ?_ | with_reducible refine' w_andV ?_ | fail)
local macro_rules | `(tactic| walk_at "step") => `(tactic| first | with_reducible refine' w_and ?_ | with_reducible refine' w_or ?_ | fail)
local macro_rules | `(tactic| walk_at "step") => `(tactic| first | with_reducible refine' w_call ?_ | with_reducible refine' w_cb ?_ | fail)
local macro_rules | `(tactic| walk_at "step") => `(tactic| first | with_reducible refine' w_v2I ?_ | with_reducible refine' w_next ?_ | fail)
local macro_rules | `(tactic| walk_at "step") => `(tactic| first | with_reducible refine' w_iRng2 ?_ | with_reducible refine' w_v1I ?_ | fail)
local macro_rules | `(tactic| walk_at "step") => `(tactic| first | with_reducible refine' w_iStr ?_ | with_reducible refine' w_iRng1 ?_ | fail)
local macro_rules | `(tactic| walk_at "step") => `(tactic| first | with_reducible refine' w_iList ?_ | with_reducible refine' w_iTup ?_ | fail)
local macro_rules | `(tactic| walk_at "step") => `(tactic| first | with_reducible refine' w_isS ?_ | with_reducible refine' w_lc ?_ | fail)
local macro_rules | `(tactic| walk_at "step") => `(tactic| first | ((with_reducible refine' w_gTup ?h ?l ?_); (case h => walk_at "st"); (case l => rfl)) | with_reducible refine' w_m1 ?_ | fail)
local macro_rules | `(tactic| walk_at "step") => `(tactic| first | with_reducible refine' w_gCons ?_ | with_reducible refine' w_gNil ?_ | fail)
local macro_rules | `(tactic| walk_at "step") => `(tactic| first | with_reducible refine' w_iRng3 ?_ | with_reducible refine' w_iZip ?_ | fail)
local macro_rules | `(tactic| walk_at "step") => `(tactic| first | with_reducible refine' w_iItems ?_ | with_reducible refine' w_iKeys ?_ | fail)
local macro_rules | `(tactic| walk_at "step") => `(tactic| first | with_reducible refine' w_iRev ?_ | ((with_reducible refine' w_rev1 ?h ?_); (case h => walk_at "sq")) | fail)
local macro_rules | `(tactic| walk_at "step") => `(tactic| first | with_reducible refine' w_bm0 ?_ | ((with_reducible refine' w_tyL ?h ?_); (case h => walk_at "sq")) | fail)
local macro_rules | `(tactic| walk_at "step") => `(tactic| first | with_reducible refine' w_sDPut ?_ | with_reducible refine' w_bm ?_ | fail)
local macro_rules | `(tactic| walk_at "step") => `(tactic| first | with_reducible refine' w_tDNotIn ?_ | ((with_reducible refine' w_dinI ?h ?_); (case h => walk_at "hk")) | fail)
local macro_rules | `(tactic| walk_at "step") => `(tactic| first | with_reducible refine' w_tDGet ?_ | with_reducible refine' w_tDIn ?_ | fail)
local macro_rules | `(tactic| walk_at "step") => `(tactic| first | with_reducible refine' w_sFld ?_ | ((with_reducible refine' w_rsFld ?h ?c ?n ?l ?e ?_); (case h => walk_at "hk"); (case c => assumption); (case n => assumption); (case e => walk_at "putf"); (case l => (simp only [List.length_cons, List.length_nil]; omega))) | fail)
local macro_rules | `(tactic| walk_at "step") => `(tactic| first | with_reducible refine' w_tFld ?_ | ((with_reducible refine' w_fld ?h ?c ?n ?l ?_); (case h => walk_at "hk"); (case c => assumption); (case n => assumption); (case l => rfl)) | fail)
local macro_rules | `(tactic| walk_at "step") => `(tactic| first | with_reducible refine' w_ret ?_ | with_reducible refine' w_for ?_ | fail)
local macro_rules | `(tactic| walk_at "step") => `(tactic| first | with_reducible refine' w_eqS ?_ | with_reducible refine' w_neS ?_ | fail)
local macro_rules | `(tactic| walk_at "step") => `(tactic| first | with_reducible refine' w_eqI ?_ | with_reducible refine' w_neI ?_ | fail)
local macro_rules | `(tactic| walk_at "step") => `(tactic| first | with_reducible refine' w_ref ?_ | with_reducible refine' w_str ?_ | fail)
local macro_rules | `(tactic| walk_at "step") => `(tactic| first | with_reducible refine' w_bl ?_ | with_reducible refine' w_int ?_ | fail)
local macro_rules | `(tactic| walk_at "step") => `(tactic| first | with_reducible refine' w_test ?_ | with_reducible refine' w_tB ?_ | fail)
local macro_rules | `(tactic| walk_at "step") => `(tactic| first | ((with_reducible refine' w_gn ?e ?_); (case e => walk_at "set")) | with_reducible refine' w_ifS ?_ | fail)
local macro_rules | `(tactic| walk_at "step") => `(tactic| first | with_reducible refine' w_nil ?_ | with_reducible refine' w_asg ?_ | fail)
local macro_rules | `(tactic| walk_at "step") => `(tactic| first | with_reducible refine' w_i0 ?_ | with_reducible refine' w_cons ?_ | fail)
local macro_rules | `(tactic| walk_at "step") => `(tactic| first | ((with_reducible refine' w_var ?h ?_); (case h => rfl)) | with_reducible refine' w_c ?_ | fail)
local macro_rules | `(tactic| walk_at "step") => `(tactic| first | with_reducible refine' w_seq ?_ | with_reducible refine' w_op ?_ | fail)
local macro_rules | `(tactic| walk_at "dec") => `(tactic| (first | with_reducible apply w_dec | with_reducible apply w_ndec | with_reducible apply w_bool) <;> intro hc)
local macro_rules | `(tactic| walk_at "msm") => `(tactic| first | with_reducible assumption | (rw [sizeLine_eq]; (try simp only [List.length_cons, List.length_nil, List.length_append, List.length_map, List.length_set, str_len_app, sign_len]); omega))
section
open PySem L2
inductive D where
  | raw (v : V) | lst (ds : List D) | tup (ds : List D) | obj (C : Addr) (ns : List Str) (ds : List D) | scr (ns : List Int)
abbrev D.int (i : Int) : D := .raw (.int i)
abbrev D.str (s : Str) : D := .raw (.str s)
abbrev D.bl (b : Bool) : D := .raw (.bl b)
abbrev D.non : D := .raw .non
abbrev D.ptr (a : Addr) : D := .raw (.ref a)
inductive Cell where
  | lst (ds : List D) | dct (kvs : List (Key × D)) | ins (C : Addr) (fs : List (Str × D)) | lock (o : Obj) (u : HO) (kvs : List (Key × D))
  | abs (n : Nat) (X : List Addr → Addr → Option Cell)
abbrev Wd := Addr → Option Cell
abbrev Env := List (Option D)
mutual
inductive Rep (K : PySem.W.Frag) (S : Hp) : V → D → Prop
  | raw (v : V) : Rep K S v (.raw v)
  | lst {a : Addr} {xs : List V} {ds : List D} (h : S a = some (.lst xs)) (hs : Reps K S xs ds) : Rep K S (.ref a) (.lst ds)
  | tup {a : Addr} {xs : List V} {ds : List D} (h : SqT K S a xs) (hs : Reps K S xs ds) : Rep K S (.ref a) (.tup ds)
  | obj {a C dx : Addr} {ns : List Str} {xs : List V} {ds : List D} (h : S a = some (.ins C dx (ns.zip xs))) (hl : ns.length = xs.length) (hs : Reps K S xs ds) : Rep K S (.ref a) (.obj C ns ds)
  | scr {a : Addr} {ns : List Int} (h : SqL K S a (ns.map V.int)) : Rep K S (.ref a) (.scr ns)
inductive Reps (K : PySem.W.Frag) (S : Hp) : List V → List D → Prop
  | nil : Reps K S [] []
  | cons {v : V} {vs : List V} {d : D} {ds : List D} (h : Rep K S v d) (t : Reps K S vs ds) : Reps K S (v :: vs) (d :: ds)
end
section
variable {K : PySem.W.Frag}
mutual
theorem Rep.mono {S S' : Hp} (e : Ex S S') : ∀ {v : V} {d : D}, Rep K S v d → Rep K S' v d
  | _, _, .raw v => .raw v
  | _, _, .lst h hs => .lst (e _ _ h) (Reps.mono e hs)
  | _, _, .tup h hs => .tup (ex_st e h) (Reps.mono e hs)
  | _, _, .obj h hl hs => .obj (e _ _ h) hl (Reps.mono e hs)
  | _, _, .scr h => .scr (ex_sq e h)
theorem Reps.mono {S S' : Hp} (e : Ex S S') : ∀ {vs : List V} {ds : List D}, Reps K S vs ds → Reps K S' vs ds
  | _, _, .nil => .nil
  | _, _, .cons h t => .cons (Rep.mono e h) (Reps.mono e t)
end
variable {S S' : Hp}
theorem Reps.len {vs : List V} {ds : List D} (h : Reps K S vs ds) : vs.length = ds.length := by
  induction vs generalizing ds with
  | nil => cases h; rfl
  | cons v vs ih => cases h with | cons h t => simp [ih t]
theorem Reps.get : ∀ {vs : List V} {ds : List D} {i : Nat} {d : D}, Reps K S vs ds → ds[i]? = some d → ∃ v, vs[i]? = some v ∧ Rep K S v d
  | _, _, _, _, .nil, e => by simp at e
  | _, _, 0, _, .cons h _, e => by simp at e; subst e; exact ⟨_, rfl, h⟩
  | _, _, i + 1, d, .cons _ t, e => by
    obtain ⟨v, h1, h2⟩ := Reps.get (i := i) (d := d) t (by simpa using e)
    exact ⟨v, by simpa using h1, h2⟩
theorem Reps.get' {vs : List V} {ds : List D} {i : Nat} {v : V} (h : Reps K S vs ds) (e : vs[i]? = some v) : ∃ d, ds[i]? = some d ∧ Rep K S v d := by
  have hi := (List.getElem?_eq_some_iff.mp e).1
  rw [h.len] at hi
  obtain ⟨w, h1, h2⟩ := h.get (List.getElem?_eq_getElem hi)
  rw [e] at h1; cases h1
  exact ⟨_, List.getElem?_eq_getElem hi, h2⟩
theorem Reps.app {vs ws : List V} {ds es : List D} (h : Reps K S vs ds) (k : Reps K S ws es) : Reps K S (vs ++ ws) (ds ++ es) := by
  induction vs generalizing ds with
  | nil => cases h; exact k
  | cons v vs ih => cases h with | cons h t => exact .cons h (ih t)
theorem Reps.take {vs : List V} {ds : List D} (h : Reps K S vs ds) (n : Nat) : Reps K S (vs.take n) (ds.take n) := by
  induction n generalizing vs ds with
  | zero => simp; exact .nil
  | succ n ih => cases h with | nil => simp; exact .nil | cons h t => simp; exact .cons h (ih t)
theorem Reps.drop {vs : List V} {ds : List D} (h : Reps K S vs ds) (n : Nat) : Reps K S (vs.drop n) (ds.drop n) := by
  induction n generalizing vs ds with
  | zero => simpa using h
  | succ n ih => cases h with | nil => simp; exact .nil | cons h t => simpa using ih t
theorem Reps.set {vs : List V} {ds : List D} {v : V} {d : D} (h : Reps K S vs ds) (k : Rep K S v d) (n : Nat) : Reps K S (vs.set n v) (ds.set n d) := by
  induction n generalizing vs ds with
  | zero => cases h with | nil => simp; exact .nil | cons h t => simp; exact .cons k t
  | succ n ih => cases h with | nil => simp; exact .nil | cons h t => simp; exact .cons h (ih t)
theorem Reps.raws : ∀ vs : List V, Reps K S vs (vs.map D.raw)
  | [] => .nil
  | v :: vs => .cons (.raw v) (Reps.raws vs)
theorem Reps.rawsI {vs : List V} {ds : List D} {α : Type} {f : α → V} {l : List α} (h : Reps K S vs ds) (e : ds = l.map fun x => D.raw (f x)) : vs = l.map f := by
  subst e
  induction l generalizing vs with
  | nil => cases h; rfl
  | cons a l ih => cases h with | cons h t => cases h; rw [List.map_cons, ih t]
inductive RepP {κ : Type} (K : PySem.W.Frag) (S : Hp) : List (κ × V) → List (κ × D) → Prop
  | nil : RepP K S [] []
  | cons {k : κ} {v : V} {d : D} {r : List (κ × V)} {q : List (κ × D)} (h : Rep K S v d) (t : RepP K S r q) : RepP K S ((k, v) :: r) ((k, d) :: q)
section
variable {κ : Type} {r : List (κ × V)} {q : List (κ × D)}
theorem RepP.mono (e : Ex S S') (h : RepP K S r q) : RepP K S' r q := by
  induction h with
  | nil => exact .nil
  | cons h _ ih => exact .cons (h.mono e) ih
theorem RepP.len (h : RepP K S r q) : r.length = q.length := by
  induction h with
  | nil => rfl
  | cons h _ ih => simp [ih]
theorem RepP.look [BEq κ] (h : RepP K S r q) {k : κ} {d : D} (e : q.lookup k = some d) : ∃ v, r.lookup k = some v ∧ Rep K S v d := by
  induction h with
  | nil => cases e
  | cons h _ ih =>
    rename_i k' v d' r q _
    rw [List.lookup_cons] at e ⊢
    split at e
    · cases e; exact ⟨v, rfl, h⟩
    · exact ih e
end
inductive CellR (K : PySem.W.Frag) (S : Hp) : HO → Cell → Prop
  | lst {xs : List V} {ds : List D} (h : Reps K S xs ds) : CellR K S (.lst xs) (.lst ds)
  | dct {r : List (Key × V)} {q : List (Key × D)} (h : RepP K S r q) : CellR K S (.dK r) (.dct q)
  | ins {C dx : Addr} {r : List (Str × V)} {q : List (Str × D)} (h : RepP K S r q) : CellR K S (.ins C dx r) (.ins C q)
  | lock {o : Obj} {r : List (Key × V)} {q : List (Key × D)} (h : RepP K S r q) : CellR K S (.frz o (.dK r)) (.lock o (.dK r) q)
theorem CellR.mono (e : Ex S S') {o : HO} {c : Cell} : CellR K S o c → CellR K S' o c
  | .lst h => .lst (h.mono e)
  | .dct h => .dct (h.mono e)
  | .ins h => .ins (h.mono e)
  | .lock h => .lock (h.mono e)
def wset (W : Wd) (a : Addr) (c : Cell) : Wd := fun b => if b = a then some c else W b
def wer (W : Wd) (a : Addr) : Wd := fun b => if b = a then none else W b
section
variable {W W' : Wd} {a b : Addr} {c c' : Cell}
theorem ws_same : wset W a c a = some c := by unfold wset; rw [if_pos rfl]
theorem ws_ne (h : b ≠ a) : wset W a c b = W b := by unfold wset; rw [if_neg h]
theorem we_same : wer W a a = none := by unfold wer; rw [if_pos rfl]
theorem we_ne (h : b ≠ a) : wer W a b = W b := by unfold wer; rw [if_neg h]
theorem ws_ws : wset (wset W a c) a c' = wset W a c' := by
  funext b; unfold wset; split <;> rfl
theorem we_ws (h : W a = none) : wer (wset W a c) a = W := by
  funext x; unfold wer wset
  by_cases h1 : x = a
  · subst h1; rw [if_pos rfl, h]
  · rw [if_neg h1, if_neg h1]
theorem ws_id (h : W a = some c) : wset W a c = W := by
  funext x; unfold wset
  by_cases h1 : x = a
  · subst h1; rw [if_pos rfl, h]
  · rw [if_neg h1]
theorem ne_w {a b : Addr} (h : W a = some c) (h' : W b = none) : a ≠ b := by
  intro e; subst e; rw [h] at h'; cases h'
def Sub (W W' : Wd) : Prop := ∀ a c, W a = some c → W' a = some c
theorem Sub.refl (W : Wd) : Sub W W := fun _ _ h => h
theorem Sub.trans {W1 W2 W3 : Wd} (a : Sub W1 W2) (b : Sub W2 W3) : Sub W1 W3 := fun x c h => b x c (a x c h)
theorem Sub.new (s : Sub W W') (h : W a = none) : Sub W (wset W' a c) := fun x d q => by rw [ws_ne (ne_w q h)]; exact s x d q
theorem Sub.set (s : Sub W W') : Sub (wset W a c) (wset W' a c) := fun x d q => by
  by_cases h : x = a
  · subst h; rw [ws_same] at q ⊢; exact q
  · rw [ws_ne h] at q ⊢; exact s x d q
theorem Sub.wer : Sub (wer W a) W := fun x d q => by
  by_cases e : x = a
  · subst e; rw [we_same] at q; cases q
  · rw [we_ne e] at q; exact q
end
structure StaC (K : PySem.W.Frag) (B : Hp) (W : Wd) (H : Hp) : Prop where
  ex : Ex B H
  own : ∀ a c, W a = some c → B a = none ∧ ∃ o, H a = some o ∧ CellR K B o c
section
variable {B B' H H' : Hp} {W W' : Wd} {a p : Addr} {o : HO} {c c' : Cell}
theorem StaC.nnone (s : StaC K B W H) (h : H p = none) : W p = none := by
  cases e : W p with
  | none => rfl
  | some c => obtain ⟨_, o, h2, _⟩ := s.own p c e; rw [h] at h2; cases h2
theorem StaC.new (s : StaC K B W H) (h : H p = none) (r : CellR K B o c) : StaC K B (wset W p c) (upd H p o) := by
  refine ⟨s.ex.trans (Evl.Ex.new h), fun x d q => ?_⟩
  by_cases e : x = p
  · subst e; rw [ws_same] at q; cases q
    exact ⟨ex_free s.ex h, o, upd_same, r⟩
  · rw [ws_ne e] at q
    rw [upd_ne e]
    exact s.own x d q
theorem StaC.newB (s : StaC K B W H) (h : H p = none) : StaC K (upd B p o) W (upd H p o) ∧ Ex B (upd B p o) := by
  have hb := ex_free s.ex h
  have e : Ex B (upd B p o) := Evl.Ex.new hb
  refine ⟨⟨fun x u q => ?_, fun x d q => ?_⟩, e⟩
  · by_cases z : x = p
    · subst z; rw [upd_same] at q ⊢; exact q
    · rw [upd_ne z] at q ⊢; exact s.ex x u q
  · obtain ⟨h1, u, h2, h3⟩ := s.own x d q
    have z : x ≠ p := ne_of_none h2 h
    exact ⟨by rw [upd_ne z]; exact h1, u, by rw [upd_ne z]; exact h2, h3.mono e⟩
theorem StaC.set (s : StaC K B W H) (h : W a = some c') (r : CellR K B o c) : StaC K B (wset W a c) (upd H a o) := by
  obtain ⟨h1, _⟩ := s.own a c' h
  refine ⟨Evl.Ex.mut s.ex h1, fun x d q => ?_⟩
  by_cases e : x = a
  · subst e; rw [ws_same] at q; cases q
    exact ⟨h1, o, upd_same, r⟩
  · rw [ws_ne e] at q
    rw [upd_ne e]
    exact s.own x d q
theorem StaC.frz (s : StaC K B W H) (h : W a = some c) (h2 : H a = some o) : StaC K (upd B a o) (wer W a) H ∧ Ex B (upd B a o) := by
  obtain ⟨h1, _⟩ := s.own a c h
  have e : Ex B (upd B a o) := Evl.Ex.new h1
  refine ⟨⟨fun x u q => ?_, fun x d q => ?_⟩, e⟩
  · by_cases z : x = a
    · subst z; rw [upd_same] at q; rw [h2]; exact q
    · rw [upd_ne z] at q; exact s.ex x u q
  · by_cases z : x = a
    · subst z; rw [we_same] at q; cases q
    · rw [we_ne z] at q
      obtain ⟨g1, u, g2, g3⟩ := s.own x d q
      exact ⟨by rw [upd_ne z]; exact g1, u, g2, g3.mono e⟩
theorem StaC.sub (s : StaC K B W H) (h : Sub W' W) : StaC K B W' H := ⟨s.ex, fun x d q => s.own x d (h x d q)⟩
theorem StaC.lst (s : StaC K B W H) {ds : List D} (h : W a = some (.lst ds)) : ∃ xs, H a = some (.lst xs) ∧ Reps K B xs ds := by
  obtain ⟨_, o, h1, h2⟩ := s.own a _ h
  cases h2 with | lst h2 => exact ⟨_, h1, h2⟩
theorem StaC.ins (s : StaC K B W H) {C : Addr} {q : List (Str × D)} (h : W a = some (.ins C q)) : ∃ dx r, H a = some (.ins C dx r) ∧ RepP K B r q := by
  obtain ⟨_, o, h1, h2⟩ := s.own a _ h
  cases h2 with | ins h2 => exact ⟨_, _, h1, h2⟩
end
def addW (W : Wd) (F : List Addr) (Y : Wd) : Wd := fun b => if b ∈ F then Y b else W b
inductive Exp : Wd → Wd → Prop
  | refl (W : Wd) : Exp W W
  | op {W W1 : Wd} {a : Addr} {n : Nat} {X : List Addr → Wd} (F : List Addr) (h : W a = some (.abs n X)) (hl : F.length = n) (hd : F.Nodup) (hh : F.head? = some a) (hf : ∀ b ∈ F, b ≠ a → W b = none) (hx : ∀ b, (X F b).isSome = true ↔ b ∈ F) (t : Exp (addW W F (X F)) W1) : Exp W W1
section
variable {W W' W1 Y Z : Wd} {F G : List Addr} {a b p : Addr} {c c' : Cell} {n : Nat} {X : List Addr → Wd}
theorem aw_in (h : b ∈ F) : addW W F Y b = Y b := by unfold addW; rw [if_pos h]
theorem aw_out (h : b ∉ F) : addW W F Y b = W b := by unfold addW; rw [if_neg h]
theorem head_mem (h : F.head? = some a) : a ∈ F := by
  cases F with
  | nil => cases h
  | cons x r => cases h; exact List.mem_cons_self
theorem Exp.dom (e : Exp W W1) (h : W1 p = none) : W p = none := by
  induction e with
  | refl => exact h
  | op F h0 hl hd hh hf hx t ih =>
    have k := ih h
    by_cases z : p ∈ F
    · rw [aw_in z] at k
      have := (hx p).mpr z
      rw [k] at this; cases this
    · rwa [aw_out z] at k
theorem Exp.get (e : Exp W W1) (h : W a = some c) (nc : ∀ n X, c ≠ .abs n X) : W1 a = some c := by
  induction e with
  | refl => exact h
  | op F h0 hl hd hh hf hx t ih =>
    rename_i W W1 a' n' X'
    refine ih ?_
    rw [aw_out]
    · exact h
    · intro z
      by_cases q : a = a'
      · subst q; rw [h] at h0; cases h0; exact nc _ _ rfl
      · rw [hf a z q] at h; cases h
theorem aw_ws (h : p ∉ F) : wset (addW W F Y) p c = addW (wset W p c) F Y := by
  funext x
  by_cases q : x = p
  · rw [q, ws_same, aw_out h, ws_same]
  · rw [ws_ne q]
    by_cases z : x ∈ F
    · rw [aw_in z, aw_in z]
    · rw [aw_out z, aw_out z, ws_ne q]
theorem aw_we (h : p ∉ F) : wer (addW W F Y) p = addW (wer W p) F Y := by
  funext x
  by_cases q : x = p
  · rw [q, we_same, aw_out h, we_same]
  · rw [we_ne q]
    by_cases z : x ∈ F
    · rw [aw_in z, aw_in z]
    · rw [aw_out z, aw_out z, we_ne q]
theorem aw_comm (h : ∀ b ∈ F, b ∉ G) : addW (addW W F Y) G Z = addW (addW W G Z) F Y := by
  funext x
  unfold addW
  by_cases q : x ∈ F
  · rw [if_neg (h x q), if_pos q, if_pos q]
  · rw [if_neg q, if_neg q]
theorem Exp.setN (e : Exp W W1) (h : W1 p = none) : Exp (wset W p c) (wset W1 p c) := by
  induction e with
  | refl => exact .refl _
  | op F h0 hl hd hh hf hx t ih =>
    have k := t.dom h
    have z : p ∉ F := fun z => by
      rw [aw_in z] at k
      have := (hx p).mpr z
      rw [k] at this; cases this
    have i := ih h
    rw [aw_ws z] at i
    have n1 : ∀ b ∈ F, b ≠ p := fun b hb q => z (q ▸ hb)
    exact .op F (by rw [ws_ne (n1 _ (head_mem hh))]; exact h0) hl hd hh (fun b hb hne => by rw [ws_ne (n1 b hb)]; exact hf b hb hne) hx i
theorem Exp.nin (h0 : W b = some (.abs n X)) (hf : ∀ x ∈ F, x ≠ b → W x = none) (h : W p = some c) (nc : ∀ n X, c ≠ .abs n X) : p ∉ F := fun z => by
  by_cases q : p = b
  · subst q; rw [h] at h0; cases h0; exact nc _ _ rfl
  · rw [hf p z q] at h; cases h
theorem Exp.setS (e : Exp W W1) (h : W p = some c') (nc : ∀ n X, c' ≠ .abs n X) : Exp (wset W p c) (wset W1 p c) := by
  induction e with
  | refl => exact .refl _
  | op F h0 hl hd hh hf hx t ih =>
    have z := Exp.nin h0 hf h nc
    have i := ih (by rw [aw_out z]; exact h)
    rw [aw_ws z] at i
    have n1 : ∀ b ∈ F, b ≠ p := fun b hb q => z (q ▸ hb)
    exact .op F (by rw [ws_ne (n1 _ (head_mem hh))]; exact h0) hl hd hh (fun b hb hne => by rw [ws_ne (n1 b hb)]; exact hf b hb hne) hx i
theorem Exp.erS (e : Exp W W1) (h : W p = some c') (nc : ∀ n X, c' ≠ .abs n X) : Exp (wer W p) (wer W1 p) := by
  induction e with
  | refl => exact .refl _
  | op F h0 hl hd hh hf hx t ih =>
    have z := Exp.nin h0 hf h nc
    have i := ih (by rw [aw_out z]; exact h)
    rw [aw_we z] at i
    have n1 : ∀ b ∈ F, b ≠ p := fun b hb q => z (q ▸ hb)
    exact .op F (by rw [we_ne (n1 _ (head_mem hh))]; exact h0) hl hd hh (fun b hb hne => by rw [we_ne (n1 b hb)]; exact hf b hb hne) hx i
theorem Exp.sub (e : Exp W W1) : ∀ {W'}, Sub W' W → ∃ W1', Exp W' W1' ∧ Sub W1' W1 := by
  induction e with
  | refl => exact fun h => ⟨_, .refl _, h⟩
  | op F h0 hl hd hh hf hx t ih =>
    rename_i W W1 a n X
    intro W' h
    have non : ∀ b ∈ F, b ≠ a → W' b = none := fun b hb hne => by
      cases q : W' b with
      | none => rfl
      | some c => have := h b c q; rw [hf b hb hne] at this; cases this
    cases q : W' a with
    | none =>
      refine ih fun x c hc => ?_
      have z : x ∉ F := fun z => by
        by_cases w : x = a
        · subst w; rw [q] at hc; cases hc
        · rw [non x z w] at hc; cases hc
      rw [aw_out z]; exact h x c hc
    | some c0 =>
      have e0 := h a c0 q
      rw [h0] at e0; cases e0
      obtain ⟨W2, e2, m2⟩ := ih (W' := addW W' F (X F)) fun x c hc => by
        by_cases z : x ∈ F
        · rw [aw_in z] at hc ⊢; exact hc
        · rw [aw_out z] at hc ⊢; exact h x c hc
      exact ⟨W2, .op F q hl hd hh non hx e2, m2⟩
theorem Exp.open (e : Exp W W1) (nc : ∀ b n X, W1 b ≠ some (.abs n X)) (h : W a = some (.abs n X)) : ∃ F, F.length = n ∧ F.Nodup ∧ F.head? = some a ∧ (∀ b ∈ F, b ≠ a → W b = none) ∧ Exp (addW W F (X F)) W1 := by
  induction e with
  | refl => exact (nc _ _ _ h).elim
  | op F' h0 hl hd hh hf hx t ih =>
    rename_i W W1 a' n' X'
    by_cases q : a = a'
    · subst q
      rw [h] at h0; cases h0
      exact ⟨F', hl, hd, hh, hf, t⟩
    · have z : a ∉ F' := fun z => by rw [hf a z q] at h; cases h
      obtain ⟨F, k1, k2, k3, k4, k5⟩ := ih nc (by rw [aw_out z]; exact h)
      have out : ∀ b ∈ F, b ∉ F' := fun b hb hb' => by
        by_cases w : b = a
        · subst w; exact z hb'
        · have := k4 b hb w
          rw [aw_in hb'] at this
          have y := (hx b).mpr hb'
          rw [this] at y; cases y
      refine ⟨F, k1, k2, k3, fun b hb hne => ?_, ?_⟩
      · have := k4 b hb hne
        rwa [aw_out (out b hb)] at this
      · have o2 : ∀ b ∈ F', b ∉ F := fun b h1 h2 => out b h2 h1
        refine .op F' (by rw [aw_out (o2 _ (head_mem hh))]; exact h0) hl hd hh (fun b hb hne => by rw [aw_out (o2 b hb)]; exact hf b hb hne) hx ?_
        rw [aw_comm (fun b hb => out b hb)]
        exact k5
end
structure Sta (K : PySem.W.Frag) (B : Hp) (W : Wd) (H : Hp) : Prop where
  out : ∃ W1, Exp W W1 ∧ StaC K B W1 H
section
variable {B B' H H' : Hp} {W W' : Wd} {a p : Addr} {o : HO} {c c' : Cell}
theorem StaC.nab (s : StaC K B W H) : ∀ b n X, W b ≠ some (.abs n X) := fun b n X h => by
  obtain ⟨_, o, _, r⟩ := s.own b _ h
  cases r
theorem Sta.of (s : StaC K B W H) : Sta K B W H := ⟨W, .refl _, s⟩
theorem Sta.ex (s : Sta K B W H) : Ex B H := by obtain ⟨W1, e, s⟩ := s.out; exact s.ex
theorem Sta.nnone (s : Sta K B W H) (h : H p = none) : W p = none := by obtain ⟨W1, e, s⟩ := s.out; exact e.dom (s.nnone h)
theorem Sta.new (s : Sta K B W H) (h : H p = none) (r : CellR K B o c) : Sta K B (wset W p c) (upd H p o) := by obtain ⟨W1, e, s⟩ := s.out; exact ⟨_, e.setN (s.nnone h), s.new h r⟩
theorem Sta.newB (s : Sta K B W H) (h : H p = none) : Sta K (upd B p o) W (upd H p o) ∧ Ex B (upd B p o) := by obtain ⟨W1, e, s⟩ := s.out; exact ⟨⟨_, e, (s.newB h).1⟩, (s.newB (o := o) h).2⟩
theorem Sta.set (s : Sta K B W H) (h : W a = some c') (r : CellR K B o c) (nc : ∀ n X, c' ≠ .abs n X := by intro _ _ z; cases z) : Sta K B (wset W a c) (upd H a o) := by obtain ⟨W1, e, s⟩ := s.out; exact ⟨_, e.setS h nc, s.set (e.get h nc) r⟩
theorem Sta.frz (s : Sta K B W H) (h : W a = some c) (h2 : H a = some o) (nc : ∀ n X, c ≠ .abs n X := by intro _ _ z; cases z) : Sta K (upd B a o) (wer W a) H ∧ Ex B (upd B a o) := by obtain ⟨W1, e, s⟩ := s.out; exact ⟨⟨_, e.erS h nc, (s.frz (e.get h nc) h2).1⟩, (s.frz (e.get h nc) h2).2⟩
theorem Sta.sub (s : Sta K B W H) (h : Sub W' W) : Sta K B W' H := by
  obtain ⟨W1, e, s⟩ := s.out
  obtain ⟨W2, e2, m⟩ := e.sub h
  exact ⟨W2, e2, s.sub m⟩
theorem Sta.lst (s : Sta K B W H) {ds : List D} (h : W a = some (.lst ds)) : ∃ xs, H a = some (.lst xs) ∧ Reps K B xs ds := by obtain ⟨W1, e, s⟩ := s.out; exact s.lst (e.get h (by intro _ _ z; cases z))
theorem Sta.ins (s : Sta K B W H) {C : Addr} {q : List (Str × D)} (h : W a = some (.ins C q)) : ∃ dx r, H a = some (.ins C dx r) ∧ RepP K B r q := by obtain ⟨W1, e, s⟩ := s.out; exact s.ins (e.get h (by intro _ _ z; cases z))
theorem Sta.junk (s : Sta K B W H) (h : H p = none) : Sta K B W (upd H p o) := by
  obtain ⟨W1, e, s⟩ := s.out
  refine ⟨W1, e, s.ex.trans (Evl.Ex.new h), fun a c q => ?_⟩
  obtain ⟨h1, o', h2, h3⟩ := s.own a c q
  exact ⟨h1, o', (Evl.Ex.new h) a o' h2, h3⟩
theorem Sta.open (s : Sta K B W H) {n : Nat} {X : List Addr → Wd} (h : W a = some (.abs n X)) : ∃ F, F.length = n ∧ F.Nodup ∧ F.head? = some a ∧ (∀ b ∈ F, b ≠ a → W b = none) ∧ Sta K B (addW W F (X F)) H := by
  obtain ⟨W1, e, s⟩ := s.out
  obtain ⟨F, k1, k2, k3, k4, k5⟩ := e.open s.nab h
  exact ⟨F, k1, k2, k3, k4, _, k5, s⟩
def Vs (W W' : Wd) : Prop := ∀ (K : PySem.W.Frag) (B H : Hp), Sta K B W H → Sta K B W' H
theorem Vs.of (h : Sub W' W) : Vs W W' := fun _ _ _ s => s.sub h
theorem Vs.refl (W : Wd) : Vs W W := fun _ _ _ s => s
theorem Vs.trans {W2 : Wd} (h : Vs W W') (k : Vs W' W2) : Vs W W2 := fun K B H s => k K B H (h K B H s)
theorem vs_close {n : Nat} {X : List Addr → Wd} {F : List Addr} (h : W a = some (.abs n X)) (hl : F.length = n) (hd : F.Nodup) (hh : F.head? = some a) (hf : ∀ b ∈ F, b ≠ a → W b = none) (hx : ∀ b, (X F b).isSome = true ↔ b ∈ F) : Vs (addW W F (X F)) W := fun K B H s => by
  obtain ⟨W1, e, s⟩ := s.out
  exact ⟨W1, .op F h hl hd hh hf hx e, s⟩
end
structure EnvR (K : PySem.W.Frag) (B : Hp) (σ : L2.St) (e : Env) : Prop where
  len : σ.length = e.length
  at' : ∀ (i : Nat) (d : D), e[i]? = some (some d) → ∃ v, σ[i]? = some (some v) ∧ Rep K B v d
section
variable {B B' : Hp} {σ : L2.St} {e e' : Env}
theorem EnvR.mono (x : Ex B B') (h : EnvR K B σ e) : EnvR K B' σ e := ⟨h.len, fun i d q => by
  obtain ⟨v, h1, h2⟩ := h.at' i d q
  exact ⟨v, h1, h2.mono x⟩⟩
theorem EnvR.set (h : EnvR K B σ e) {i : Nat} {v : V} {d : D} (r : Rep K B v d) : EnvR K B (σ.set i (some v)) (e.set i (some d)) := ⟨by simp [h.len], fun j d' q => by
  by_cases z : i = j
  · subst z
    rw [List.getElem?_set] at q ⊢
    simp only [if_true] at q ⊢
    rw [h.len]
    split at q
    · cases q; rename_i hl; rw [if_pos hl]; exact ⟨v, rfl, r⟩
    · cases q
  · rw [List.getElem?_set_ne z] at q ⊢
    exact h.at' j d' q⟩
theorem EnvR.wipe1 (h : EnvR K B σ e) {i : Nat} {x : Option V} : EnvR K B (σ.set i x) (e.set i none) := ⟨by simp [h.len], fun j d' q => by
  by_cases z : i = j
  · subst z
    rw [List.getElem?_set] at q
    simp only [if_true] at q
    split at q <;> cases q
  · rw [List.getElem?_set_ne z] at q ⊢
    exact h.at' j d' q⟩
def EnvLe (e e' : Env) : Prop := e.length = e'.length ∧ ∀ (i : Nat) (d : D), e[i]? = some (some d) → e'[i]? = some (some d)
theorem EnvLe.refl (e : Env) : EnvLe e e := ⟨rfl, fun _ _ h => h⟩
theorem EnvR.le (h : EnvR K B σ e) (l : EnvLe e' e) : EnvR K B σ e' := ⟨by rw [h.len, l.1], fun i d q => h.at' i d (l.2 i d q)⟩
theorem EnvLe.cons {x y : Option D} {e e' : Env} (h : x = y ∨ x = none) (t : EnvLe e e') : EnvLe (x :: e) (y :: e') := ⟨by simp [t.1], fun i d q => by
  cases i with
  | zero =>
    rcases h with rfl | rfl
    · exact q
    · simp at q
  | succ i => simp at q ⊢; exact t.2 i d q⟩
theorem EnvLe.nil : EnvLe [] [] := .refl _
end
end
abbrev KD := D → Wd → Prop
structure DE where
  nx : Env → Wd → Prop
  rt : KD
  bk : Env → Wd → Prop := fun _ _ => False
  ct : Env → Wd → Prop := fun _ _ => False
def WE (K : PySem.W.Frag) (te : TE) (e : Env) (W : Wd) (Q : KD) : Prop :=
  ∀ (B : Hp) (σ : L2.St) (H : Hp) (k : VK), Sta K B W H → EnvR K B σ e → (∀ v B' H' d W', Ex B B' → Sta K B' W' H' → Rep K B' v d → Q d W' → k v H') → te σ H k
def WA (K : PySem.W.Frag) (ta : TA) (e : Env) (W : Wd) (Q : List D → Wd → Prop) : Prop :=
  ∀ (B : Hp) (σ : L2.St) (H : Hp) (k : List V → Hp → Prop), Sta K B W H → EnvR K B σ e → (∀ vs B' H' ds W', Ex B B' → Sta K B' W' H' → Reps K B' vs ds → Q ds W' → k vs H') → ta σ H k
def WT (K : PySem.W.Frag) (tt : TT) (e : Env) (W : Wd) (Q : Bool → Wd → Prop) : Prop :=
  ∀ (B : Hp) (σ : L2.St) (H : Hp) (k : Bool → Hp → Prop), Sta K B W H → EnvR K B σ e → (∀ b B' H' W', Ex B B' → Sta K B' W' H' → Q b W' → k b H') → tt σ H k
def WO (K : PySem.W.Frag) (to : TO) (e : Env) (W : Wd) (Q : Option Int → Wd → Prop) : Prop :=
  ∀ (B : Hp) (σ : L2.St) (H : Hp) (k : Option Int → Hp → Prop), Sta K B W H → EnvR K B σ e → (∀ b B' H' W', Ex B B' → Sta K B' W' H' → Q b W' → k b H') → to σ H k
def WS (K : PySem.W.Frag) (ts : TS) (e : Env) (W : Wd) (E : DE) : Prop :=
  ∀ (Dn : Ends) (B : Hp) (σ : L2.St) (H : Hp), Sta K B W H → EnvR K B σ e →
    (∀ σ' B' H' e' W', Ex B B' → Sta K B' W' H' → EnvR K B' σ' e' → E.nx e' W' → Dn.nx σ' H') →
    (∀ v B' H' d W', Ex B B' → Sta K B' W' H' → Rep K B' v d → E.rt d W' → Dn.rt v H') →
    (∀ σ' B' H' e' W', Ex B B' → Sta K B' W' H' → EnvR K B' σ' e' → E.bk e' W' → Dn.bk σ' H') →
    (∀ σ' B' H' e' W', Ex B B' → Sta K B' W' H' → EnvR K B' σ' e' → E.ct e' W' → Dn.ct σ' H') → ts Dn σ H
def WG (K : PySem.W.Frag) (tg : TG) (x : D) (e : Env) (W : Wd) (Q : Env → Wd → Prop) : Prop :=
  ∀ (B : Hp) (σ : L2.St) (H : Hp) (v : V) (k : L2.St → Hp → Prop), Sta K B W H → EnvR K B σ e → Rep K B v x → (∀ σ' B' H' e' W', Ex B B' → Sta K B' W' H' → EnvR K B' σ' e' → Q e' W' → k σ' H') → tg v σ H k
def WGs (K : PySem.W.Frag) (tg : TGs) (xs : List D) (e : Env) (W : Wd) (Q : Env → Wd → Prop) : Prop :=
  ∀ (B : Hp) (σ : L2.St) (H : Hp) (vs : List V) (k : L2.St → Hp → Prop), Sta K B W H → EnvR K B σ e → Reps K B vs xs → (∀ σ' B' H' e' W', Ex B B' → Sta K B' W' H' → EnvR K B' σ' e' → Q e' W' → k σ' H') → tg vs σ H k
def RD (K : PySem.W.Frag) (r : R2) (x y : D) (W : Wd) (Q : KD) : Prop :=
  ∀ (B H : Hp) (v w : V) (k : VK), Sta K B W H → Rep K B v x → Rep K B w y → (∀ v B' H' d W', Ex B B' → Sta K B' W' H' → Rep K B' v d → Q d W' → k v H') → r v w H k
def RC (K : PySem.W.Frag) (r : List V → Hp → VK → Prop) (xs : List D) (W : Wd) (Q : KD) : Prop :=
  ∀ (B H : Hp) (vs : List V) (k : VK), Sta K B W H → Reps K B vs xs → (∀ v B' H' d W', Ex B B' → Sta K B' W' H' → Rep K B' v d → Q d W' → k v H') → r vs H k
abbrev PF := List D → Wd → KD → Prop
def lift (K : PySem.W.Frag) (p : PF) : Sp := fun vs H Q _ => ∃ B W ds Q0, Sta K B W H ∧ Reps K B vs ds ∧ p ds W Q0 ∧ ∀ v B' H' d W', Ex B B' → Sta K B' W' H' → Rep K B' v d → Q0 d W' → Q v H'
def FzQ (Q : KD) : KD := fun d W => Q d W ∨ (∃ a ds, d = .ptr a ∧ W a = some (.lst ds) ∧ Q (.lst ds) (wer W a)) ∨ ∃ a C fs, d = .ptr a ∧ W a = some (.ins C fs) ∧ Q (.obj C (fs.map (·.1)) (fs.map (·.2))) (wer W a)
def SubQ (Q : KD) : KD := fun d W => ∃ W', Vs W W' ∧ Q d W'
def Nx (I : Env → Wd → Prop) : Env → Wd → Prop := fun e W => ∃ e' W', EnvLe e' e ∧ Vs W W' ∧ I e' W'
section
variable {K : PySem.W.Frag} {e : Env} {W : Wd} {te ta tb tx ty : TE} {Q : KD} {ts tu tw : TS} {E : DE} {x y z d : D} {i : Nat}
theorem zip_fs {S : Hp} {r : List (Str × V)} {q : List (Str × D)} (h : RepP K S r q) : ∃ xs, r = (q.map (·.1)).zip xs ∧ (q.map (·.1)).length = xs.length ∧ Reps K S xs (q.map (·.2)) := by
  induction h with
  | nil => exact ⟨[], rfl, rfl, .nil⟩
  | cons h _ ih =>
    obtain ⟨xs, h1, h2, h3⟩ := ih
    rename_i k v d r q _
    exact ⟨v :: xs, by simp [h1], by simpa using h2, .cons h h3⟩
theorem fz_sem {B H : Hp} {v : V} {k : VK} (s : Sta K B W H) (r : Rep K B v d) (q : FzQ Q d W) (hk : ∀ v B' H' d W', Ex B B' → Sta K B' W' H' → Rep K B' v d → Q d W' → k v H') : k v H := by
  rcases q with q | ⟨a, ds, rfl, h, q⟩ | ⟨a, C, fs, rfl, h, q⟩
  · exact hk v B H d W (Evl.Ex.refl _) s r q
  · obtain ⟨xs, h1, h2⟩ := s.lst h
    obtain ⟨s2, e2⟩ := s.frz h h1
    cases r
    exact hk _ _ H _ _ e2 s2 (.lst upd_same (h2.mono e2)) q
  · obtain ⟨dx, r', h1, h2⟩ := s.ins h
    obtain ⟨xs, rfl, h3, h4⟩ := zip_fs h2
    obtain ⟨s2, e2⟩ := s.frz h h1
    cases r
    exact hk _ _ H _ _ e2 s2 (.obj upd_same h3 (h4.mono e2)) q
theorem we_fz (q : WE K te e W (FzQ Q)) : WE K te e W Q := fun B σ H k s r hk =>
  q B σ H k s r fun v B' H' d W' e1 s1 r1 q1 => fz_sem s1 r1 q1 fun v2 B2 H2 d2 W2 e2 s2 r2 q2 => hk v2 B2 H2 d2 W2 (e1.trans e2) s2 r2 q2
theorem we_subq (q : WE K te e W (SubQ Q)) : WE K te e W Q := fun B σ H k s r hk =>
  q B σ H k s r fun v B' H' d W' e1 s1 r1 q1 => by
    obtain ⟨W2, h2, q2⟩ := q1
    exact hk v B' H' d W2 e1 (h2 _ _ _ s1) r1 q2
theorem we_var (h : e[i]? = some (some d)) (q : Q d W) : WE K (tVar i) e W Q := fun B σ H k s r hk => by
  obtain ⟨v, h1, h2⟩ := r.at' i d h
  exact ⟨v, h1, hk v B H d W (Evl.Ex.refl _) s h2 q⟩
theorem we_c {v : V} (q : Q (.raw v) W) : WE K (tC v) e W Q := fun B σ H k s r hk => hk v B H _ W (Evl.Ex.refl _) s (.raw v) q
theorem we_op {r : R2} (q : WE K ta e W fun x W1 => WE K tb e W1 fun y W2 => RD K r x y W2 Q) : WE K (tOp r ta tb) e W Q := fun B σ H k s r hk =>
  q B σ H _ s r fun v B1 H1 d W1 e1 s1 r1 q1 => q1 B1 σ H1 _ s1 (r.mono e1) fun w B2 H2 d2 W2 e2 s2 r2 q2 => q2 B2 H2 v w k s2 (r1.mono e2) r2 fun u B3 H3 d3 W3 e3 s3 r3 q3 => hk u B3 H3 d3 W3 ((e1.trans e2).trans e3) s3 r3 q3
theorem rd_raw {r : R2} {a b c : V} (h : ∀ (H : Hp) (k : VK), k c H → r a b H k) (q : Q (.raw c) W) : RD K r (.raw a) (.raw b) W Q := fun B H v w k s r1 r2 hk => by
  cases r1; cases r2
  exact h H k (hk c B H _ W (Evl.Ex.refl _) s (.raw c) q)
theorem rc_raw1 {r : List V → Hp → VK → Prop} {a c : V} (h : ∀ (H : Hp) (k : VK), k c H → r [a] H k) (q : Q (.raw c) W) : RC K r [.raw a] W Q := fun B H v k s r1 hk => by
  cases r1 with
  | cons r1 r2 =>
    cases r1; cases r2
    exact h H k (hk c B H _ W (Evl.Ex.refl _) s (.raw c) q)
theorem rc_raw2 {r : List V → Hp → VK → Prop} {a b c : V} (h : ∀ (H : Hp) (k : VK), k c H → r [a, b] H k) (q : Q (.raw c) W) : RC K r [.raw a, .raw b] W Q := fun B H v k s r1 hk => by
  cases r1 with
  | cons r1 r2 =>
    cases r1
    cases r2 with
    | cons r2 r3 =>
      cases r2; cases r3
      exact h H k (hk c B H _ W (Evl.Ex.refl _) s (.raw c) q)
theorem d_i0 {f : Int → Int → V} {a b : Int} (q : Q (.raw (f a b)) W) : RD K (rI0 f) (.raw (.int a)) (.raw (.int b)) W Q := rd_raw (fun _ _ => w_i0) q
theorem d_i {C : Int → Int → Prop} {f : Int → Int → V} {a b : Int} (hc : C a b) (q : Q (.raw (f a b)) W) : RD K (rI C f) (.raw (.int a)) (.raw (.int b)) W Q := rd_raw (fun _ _ => w_i hc) q
theorem d_eqI {a b : Int} (q : Q (.raw (.bl (dB (a = b)))) W) : RD K rEq (.raw (.int a)) (.raw (.int b)) W Q := rd_raw (fun _ _ => w_eqI) q
theorem d_neI {a b : Int} (q : Q (.raw (.bl (!dB (a = b)))) W) : RD K rNe (.raw (.int a)) (.raw (.int b)) W Q := rd_raw (fun _ _ => w_neI) q
theorem d_eqS {a b : Str} (q : Q (.raw (.bl (dB (a = b)))) W) : RD K rEq (.raw (.str a)) (.raw (.str b)) W Q := rd_raw (fun _ _ => w_eqS) q
theorem d_gt {a b : Int} (q : Q (.raw (.bl (dB (b < a)))) W) : RD K rGt (.raw (.int a)) (.raw (.int b)) W Q := rd_raw (fun _ _ => w_gt) q
theorem d_addS {a b : Str} (h : a.length + b.length ≤ sizeLine) (q : Q (.raw (.str (a ++ b))) W) : RD K rAddS (.raw (.str a)) (.raw (.str b)) W Q := rd_raw (fun _ _ => w_addS h) q
variable {t u : TT} {QB : Bool → Wd → Prop}
theorem we_test (q : WE K te e W fun x W' => ∃ b, x = .raw (.bl b) ∧ QB b W') : WT K (tTest te) e W QB := fun B σ H k s r hk =>
  q B σ H _ s r fun v B1 H1 d W1 e1 s1 r1 q1 => by
    obtain ⟨b, rfl, q1⟩ := q1
    cases r1
    exact ⟨b, rfl, hk b B1 H1 W1 e1 s1 q1⟩
theorem we_tB (q : WE K te e W fun x W' => ∃ b, x = .raw (.bl b) ∧ QB b W') : WT K (tB te) e W QB := fun B σ H k s r hk =>
  q B σ H _ s r fun v B1 H1 d W1 e1 s1 r1 q1 => by
    obtain ⟨b, rfl, q1⟩ := q1
    cases r1
    exact ⟨b, rfl, hk b B1 H1 W1 e1 s1 q1⟩
theorem we_bl {b : Bool} {P : Bool → Prop} (q : P b) : ∃ c, D.raw (.bl b) = .raw (.bl c) ∧ P c := ⟨b, rfl, q⟩
theorem we_or (q : WT K t e W fun c W1 => if c = true then QB true W1 else WT K u e W1 QB) : WT K (tOr t u) e W QB := fun B σ H k s r hk =>
  q B σ H _ s r fun c B1 H1 W1 e1 s1 q1 => by
    cases c with
    | false => exact (iteF ((show WT K u e W1 QB from q1) B1 σ H1 k s1 (r.mono e1) fun b B2 H2 W2 e2 s2 q2 => hk b B2 H2 W2 (e1.trans e2) s2 q2) : if false = true then k true H1 else _)
    | true => exact (iteT (hk true B1 H1 W1 e1 s1 q1) : if true = true then _ else u σ H1 k)
theorem we_not (q : WT K t e W fun c W1 => QB (!c) W1) : WT K (tNot t) e W QB := fun B σ H k s r hk => q B σ H _ s r fun c B1 H1 W1 e1 s1 q1 => hk (!c) B1 H1 W1 e1 s1 q1
theorem we_andV (q : WE K ta e W fun x W1 => ∃ c, x = .raw (.bl c) ∧ if c = true then WE K tb e W1 Q else Q (.raw (.bl false)) W1) : WE K (tAndV ta tb) e W Q := fun B σ H k s r hk =>
  q B σ H _ s r fun v B1 H1 d W1 e1 s1 r1 q1 => by
    obtain ⟨c, rfl, q1⟩ := q1
    cases r1
    refine ⟨c, rfl, ?_⟩
    cases c with
    | true => exact (iteT ((show WE K tb e W1 Q from q1) B1 σ H1 k s1 (r.mono e1) fun b B2 H2 d2 W2 e2 s2 r2 q2 => hk b B2 H2 d2 W2 (e1.trans e2) s2 r2 q2) : if true = true then _ else k (.bl false) H1)
    | false => exact (iteF (hk _ B1 H1 _ W1 e1 s1 (.raw _) q1) : if false = true then tb σ H1 k else _)
theorem we_notV (q : WE K ta e W fun x W1 => ∃ c, x = .raw (.bl c) ∧ Q (.raw (.bl (!c))) W1) : WE K (tNotV ta) e W Q := fun B σ H k s r hk =>
  q B σ H _ s r fun v B1 H1 d W1 e1 s1 r1 q1 => by
    obtain ⟨c, rfl, q1⟩ := q1
    cases r1
    exact ⟨c, rfl, hk _ B1 H1 _ W1 e1 s1 (.raw _) q1⟩
variable {tr tl : TA} {QA : List D → Wd → Prop}
theorem wa_nil (q : QA [] W) : WA K tNil e W QA := fun B σ H k s r hk => hk [] B H [] W (Evl.Ex.refl _) s .nil q
theorem wa_cons (q : WE K ta e W fun x W1 => WA K tr e W1 fun xs W2 => QA (x :: xs) W2) : WA K (tCons ta tr) e W QA := fun B σ H k s r hk =>
  q B σ H _ s r fun v B1 H1 d W1 e1 s1 r1 q1 => q1 B1 σ H1 _ s1 (r.mono e1) fun vs B2 H2 ds W2 e2 s2 r2 q2 => hk _ B2 H2 _ W2 (e1.trans e2) s2 (.cons (r1.mono e2) r2) q2
theorem we_call {p : PF} (q : WA K tl e W fun ds W1 => p ds W1 Q) : WE K (tCall (lift K p) [] E0 tl) e W Q := fun B σ H k s r hk =>
  q B σ H _ s r fun vs B1 H1 ds W1 e1 s1 r1 q1 => by
    rw [List.append_nil]
    exact ⟨B1, W1, ds, Q, s1, r1, q1, fun v B' H' d W' e2 s2 r2 q2 => hk v B' H' d W' (e1.trans e2) s2 r2 q2⟩
theorem we_cb {r : List V → Hp → VK → Prop} (q : WA K tl e W fun ds W1 => RC K r ds W1 Q) : WE K (tCB r tl) e W Q := fun B σ H k s r hk =>
  q B σ H _ s r fun vs B1 H1 ds W1 e1 s1 r1 q1 => q1 B1 H1 vs k s1 r1 fun v B' H' d W' e2 s2 r2 q2 => hk v B' H' d W' (e1.trans e2) s2 r2 q2
theorem we_make {C : Addr} {p : PF} (q : WA K tl e W fun ds W1 => ∀ x, W1 x = none → p (.ptr x :: ds) (wset W1 x (.ins C [])) fun d W2 => d = .non ∧ Q (.ptr x) W2) : WE K (tMake C (lift K p) [] E0 tl) e W Q := fun B σ H k s r hk =>
  q B σ H _ s r fun vs B1 H1 ds W1 e1 s1 r1 q1 x dx hx hdx hne => by
    rw [List.append_nil]
    have hdx2 : (upd H1 dx (.own x)) x = none := by rw [upd_ne (Ne.symm hne)]; exact hx
    have s2 : Sta K B1 W1 (upd H1 dx (.own x)) := s1.junk hdx
    refine ⟨B1, wset W1 x (.ins C []), _, _, s2.new hdx2 (.ins .nil), .cons (.raw _) r1, q1 x (s1.nnone hx), fun v B' H' d W' e3 s3 r3 q3 => ?_⟩
    obtain ⟨rfl, q3⟩ := q3
    cases r3
    exact ⟨rfl, hk _ B' H' _ W' (e1.trans e3) s3 (.raw _) q3⟩
theorem ws_seq (q : WS K ts e W { E with nx := fun e' W' => WS K tu e' W' E }) : WS K (tSeq ts tu) e W E := fun Dn B σ H s r h1 h2 h3 h4 =>
  q { Dn with nx := tu Dn } B σ H s r (fun σ' B' H' e' W' x s' r' q' => q' Dn B' σ' H' s' r' (fun σ2 B2 H2 e2 W2 x2 => h1 σ2 B2 H2 e2 W2 (x.trans x2)) (fun v B2 H2 d2 W2 x2 => h2 v B2 H2 d2 W2 (x.trans x2)) (fun σ2 B2 H2 e2 W2 x2 => h3 σ2 B2 H2 e2 W2 (x.trans x2)) fun σ2 B2 H2 e2 W2 x2 => h4 σ2 B2 H2 e2 W2 (x.trans x2)) h2 h3 h4
theorem ws_cut (Mid : Env → Wd → Prop) (h : WS K ts e W { E with nx := Nx Mid }) (k : ∀ e' W', Mid e' W' → WS K tu e' W' E) : WS K (Evl.tCut ts tu) e W E := fun Dn B σ H s r h1 h2 h3 h4 =>
  ⟨fun σ' H' => ∃ B' e' W', Ex B B' ∧ Sta K B' W' H' ∧ EnvR K B' σ' e' ∧ Mid e' W', h { Dn with nx := _ } B σ H s r (fun σ' B' H' e' W' x s' r' q' => by
      obtain ⟨e2, W2, l2, m2, q2⟩ := q'
      exact ⟨B', e2, W2, x, m2 _ _ _ s', r'.le l2, q2⟩) h2 h3 h4, fun σ' H' q => by
    obtain ⟨B', e', W', x, s', r', q'⟩ := q
    exact k e' W' q' Dn B' σ' H' s' r' (fun σ2 B2 H2 e2 W2 x2 => h1 σ2 B2 H2 e2 W2 (x.trans x2)) (fun v B2 H2 d2 W2 x2 => h2 v B2 H2 d2 W2 (x.trans x2)) (fun σ2 B2 H2 e2 W2 x2 => h3 σ2 B2 H2 e2 W2 (x.trans x2)) fun σ2 B2 H2 e2 W2 x2 => h4 σ2 B2 H2 e2 W2 (x.trans x2)⟩
theorem ws_next (q : E.nx e W) : WS K tNext e W E := fun Dn B σ H s r h1 _ _ _ => h1 σ B H e W (Evl.Ex.refl _) s r q
theorem ws_asg {tg : TG} (q : WE K te e W fun x W1 => WG K tg x e W1 E.nx) : WS K (tAsg te tg) e W E := fun Dn B σ H s r h1 h2 h3 h4 =>
  q B σ H _ s r fun v B1 H1 d W1 e1 s1 r1 q1 => q1 B1 σ H1 v _ s1 (r.mono e1) r1 fun σ2 B2 H2 e2 W2 x2 => h1 σ2 B2 H2 e2 W2 (e1.trans x2)
theorem wg_name {QE : Env → Wd → Prop} {e' : Env} (h : e.set i (some x) = e') (q : QE e' W) : WG K (gName i) x e W QE := fun B σ H v k s r r1 hk => by
  subst h
  exact hk _ B H _ W (Evl.Ex.refl _) s (r.set r1) q
theorem wg_tup {n : Nat} {u : TGs} {xs : List D} {QE : Env → Wd → Prop} (l : xs.length = n) (q : WGs K u xs e W QE) : WG K (gTup K n u) (.tup xs) e W QE := fun B σ H v k s r r1 hk => by
  cases r1 with
  | tup h hs => exact ⟨_, _, rfl, ex_st s.ex h, by rw [hs.len]; exact l, q B σ H _ k s r hs hk⟩
theorem wgs_nil {QE : Env → Wd → Prop} (q : QE e W) : WGs K gNil [] e W QE := fun B σ H v k s r r1 hk => by
  cases r1
  exact ⟨rfl, hk σ B H e W (Evl.Ex.refl _) s r q⟩
theorem wgs_cons {tg : TG} {u : TGs} {xs : List D} {QE : Env → Wd → Prop} (q : WG K tg x e W fun e' W' => WGs K u xs e' W' QE) : WGs K (gCons tg u) (x :: xs) e W QE := fun B σ H v k s r r1 hk => by
  cases r1 with
  | cons h t => exact ⟨_, _, rfl, q B σ H _ _ s r h fun σ2 B2 H2 e2 W2 x2 s2 r2 q2 => q2 B2 σ2 H2 _ k s2 r2 (t.mono x2) fun σ3 B3 H3 e3 W3 x3 => hk σ3 B3 H3 e3 W3 (x2.trans x3)⟩
theorem ws_drop (q : WE K te e W fun _ W1 => E.nx e W1) : WS K (tDrop te) e W E := fun Dn B σ H s r h1 h2 h3 h4 =>
  q B σ H _ s r fun v B1 H1 d W1 e1 s1 r1 q1 => h1 σ B1 H1 e W1 e1 s1 (r.mono e1) q1
theorem ws_ret (q : WE K te e W (FzQ (SubQ E.rt))) : WS K (tRet te) e W E := fun Dn B σ H s r h1 h2 h3 h4 =>
  we_subq (we_fz q) B σ H _ s r fun v B1 H1 d W1 e1 s1 r1 q1 => h2 v B1 H1 d W1 e1 s1 r1 q1
theorem ws_if (q : WT K t e W fun b W1 => if b = true then WS K ts e W1 E else WS K tu e W1 E) : WS K (tIfS t ts tu) e W E := fun Dn B σ H s r h1 h2 h3 h4 =>
  q B σ H _ s r fun c B1 H1 W1 e1 s1 q1 => by
    have g1 := fun σ2 B2 H2 e2 W2 (x2 : Ex B1 B2) => h1 σ2 B2 H2 e2 W2 (e1.trans x2)
    have g2 := fun v B2 H2 d2 W2 (x2 : Ex B1 B2) => h2 v B2 H2 d2 W2 (e1.trans x2)
    have g3 := fun σ2 B2 H2 e2 W2 (x2 : Ex B1 B2) => h3 σ2 B2 H2 e2 W2 (e1.trans x2)
    have g4 := fun σ2 B2 H2 e2 W2 (x2 : Ex B1 B2) => h4 σ2 B2 H2 e2 W2 (e1.trans x2)
    cases c with
    | true => exact (iteT ((show WS K ts e W1 E from q1) Dn B1 σ H1 s1 (r.mono e1) g1 g2 g3 g4) : if true = true then _ else tu Dn σ H1)
    | false => exact (iteF ((show WS K tu e W1 E from q1) Dn B1 σ H1 s1 (r.mono e1) g1 g2 g3 g4) : if false = true then ts Dn σ H1 else _)
def startD (N : List Str) (ds : List D) : Env := ds.map some ++ List.replicate (N.length - ds.length) none
theorem start_r {B : Hp} {N : List Str} {vs : List V} {ds : List D} (h : Reps K B vs ds) : EnvR K B (L2.start N vs) (startD N ds) := by
  have hl := h.len
  refine ⟨by unfold L2.start startD; simp [hl], fun i d q => ?_⟩
  unfold startD at q
  by_cases z : i < ds.length
  · rw [List.getElem?_append_left (by simpa using z), List.getElem?_map] at q
    obtain ⟨d', h1, h2⟩ := Option.map_eq_some_iff.mp q
    cases h2
    obtain ⟨v, h3, h4⟩ := h.get h1
    refine ⟨v, ?_, h4⟩
    unfold L2.start
    rw [List.getElem?_append_left (by rw [List.length_map, hl]; exact z), List.getElem?_map, h3]; rfl
  · rw [List.getElem?_append_right (by simpa using z)] at q
    have := List.mem_of_getElem? q
    rw [List.mem_replicate] at this
    cases this.2
theorem lift_pure {p : PF} {t : TS} {N : List Str} {vs : List V} {H : Hp} {Qv : VK} {Ex : XK} (h : lift K p vs H Qv Ex) (g : ∀ ds W Q, p ds W Q → WS K t (startD N ds) W ⟨fun _ W' => Q .non W', Q, fun _ _ => False, fun _ _ => False⟩) :
    t { nx := fun _ H' => Qv .non H', rt := Qv } (L2.start N vs) H := by
  obtain ⟨B, W, ds, Q0, s, r, hp, k⟩ := h
  exact g ds W Q0 hp { nx := fun _ H' => Qv .non H', rt := Qv } B (L2.start N vs) H s (start_r r) (fun σ' B' H' e' W' x s' _ q => k .non B' H' .non W' x s' (.raw _) q) (fun v B' H' d W' x s' r' q => k v B' H' d W' x s' r' q) (fun _ _ _ _ _ _ _ _ q => q.elim) (fun _ _ _ _ _ _ _ _ q => q.elim)
theorem lift_len {p : PF} {n : Nat} {vs : List V} {H : Hp} {Qv : VK} {Ex : XK} (g : ∀ ds W Q, p ds W Q → ds.length = n) (h : lift K p vs H Qv Ex) : vs.length = n := by
  obtain ⟨B, W, ds, Q0, s, r, hp, k⟩ := h
  rw [r.len]; exact g ds W Q0 hp
end
end
set_option Elab.async false
set_option linter.all false
set_option maxRecDepth 100000
set_option maxHeartbeats 2000000
set_option autoImplicit false
local macro_rules | `(tactic| walk_at "le") => `(tactic| repeat (first | exact EnvLe.nil | exact EnvLe.refl _ | with_reducible refine' EnvLe.cons (.inl rfl) ?_ | with_reducible refine' EnvLe.cons (.inr rfl) ?_))
local macro_rules | `(tactic| walk_at "sub") => `(tactic| first | with_reducible assumption | exact Sub.refl _ | ((with_reducible refine' Sub.set ?h1); (case h1 => walk_at "sub")) | ((with_reducible refine' Sub.new ?h1 ?h2); (case h2 => walk_at "wn"); (case h1 => walk_at "sub")))
local macro_rules | `(tactic| walk_at "mgo") => `(tactic| (repeat (first | walk_at "mst" | walk_at "callm" | with_reducible refine' we_call ?_)))
section
open PySem L2
def RM (K : PySem.W.Frag) (r : V → List V → Hp → VK → Prop) (x : D) (xs : List D) (W : Wd) (Q : KD) : Prop :=
  ∀ (B H : Hp) (v : V) (vs : List V) (k : VK), Sta K B W H → Rep K B v x → Reps K B vs xs → (∀ v B' H' d W', Ex B B' → Sta K B' W' H' → Rep K B' v d → Q d W' → k v H') → r v vs H k
def RS (K : PySem.W.Frag) (r : V → Option Int → Option Int → Hp → VK → Prop) (x : D) (lo hi : Option Int) (W : Wd) (Q : KD) : Prop :=
  ∀ (B H : Hp) (v : V) (k : VK), Sta K B W H → Rep K B v x → (∀ v B' H' d W', Ex B B' → Sta K B' W' H' → Rep K B' v d → Q d W' → k v H') → r v lo hi H k
def rCatQ (K : PySem.W.Frag) : R2 := fun x y H Q => ∃ l b xs zs, x = .ref l ∧ y = .ref b ∧ SqL K H l xs ∧ SqL K H b zs ∧ xs.length + zs.length ≤ sizeLine ∧ ∀ p, H p = none → Q (.ref p) (upd H p (.lst (xs ++ zs)))
abbrev aCatQ (K : PySem.W.Frag) := tOp (rCatQ K)
section
open PySem.Spec PyProof.Rows
theorem op_catQ {X : Cx} : OpR X (binaryOp .Add) (rCatQ X.K) := by
  intro pins s σ H x y v u Q I rx ry h
  obtain ⟨l, b, xs, zs, rfl, rfl, hx, hz, hsz, q⟩ := h
  cases rx
  cases ry
  obtain ⟨its, r, pl, _⟩ := I.list hx
  obtain ⟨its2, r2, pl2, _⟩ := I.list hz
  have n1 := r.length
  have n2 := r2.length
  obtain ⟨⟨c, dd, da, sl⟩, n, e, hc, hd, hda⟩ := pl
  obtain ⟨⟨c2, dd2, da2, sl2⟩, m, e2, hc2, hd2, hda2⟩ := pl2
  simp only at hc hd hda hc2 hd2 hda2
  subst hc hd hda hc2 hd2 hda2
  refine concat_meets ⟨_, e, rfl⟩ ⟨_, e2, rfl⟩ noFill_list_add seq_list_add PySem.F.slot_list_add PySem.F.entry_list_add (PySem.F.args_list_add_2 _ _)
    (list_addW l b its.toArray its2.toArray n m none none sl sl2 (by rw [List.size_toArray, List.size_toArray]; omega)) ⟨e, e2, ?_⟩
  have ea : its.toArray ++ its2.toArray = (its ++ its2).toArray := by simp
  rw [ea]
  exact ⟨.ref _, _, I.lnew (t' := s.toks) (r.append r2) (by rw [List.length_append]; omega), rfl, q _ I.fresh⟩
end
inductive SeqD (W : Wd) : D → List D → Prop
  | lst (ds : List D) : SeqD W (.lst ds) ds
  | own {a : Addr} {ds : List D} (h : W a = some (.lst ds)) : SeqD W (.raw (.ref a)) ds
  | scr (ns : List Int) : SeqD W (.scr ns) (ns.map D.int)
inductive CatD (W : Wd) : D → List D → Prop
  | lst (ds : List D) : CatD W (.lst ds) ds
  | own {a : Addr} {ds : List D} (h : W a = some (.lst ds)) : CatD W (.raw (.ref a)) ds
theorem SeqD.er {W W' : Wd} (m : Sub W W') {d : D} {ds : List D} : SeqD W d ds → SeqD W' d ds
  | .lst _ => .lst _
  | .own h => .own (m _ _ h)
  | .scr _ => .scr _
section
variable {K : PySem.W.Frag} {e : Env} {W : Wd} {te ta tb tx ty : TE} {Q : KD} {ts tu tw : TS} {E : DE} {x y z d : D} {i : Nat} {tr tl : TA} {B H : Hp} {v : V} {ds es : List D}
theorem seq_sem (s : Sta K B W H) (r : Rep K B v d) (q : SeqD W d ds) : ∃ a xs, v = .ref a ∧ SqL K H a xs ∧ Reps K B xs ds := by
  cases q with
  | lst ds => cases r with | lst h hs => exact ⟨_, _, rfl, SqL.of (s.ex _ _ h), hs⟩
  | own h =>
    cases r
    obtain ⟨xs, h1, h2⟩ := s.lst h
    exact ⟨_, xs, rfl, SqL.of h1, h2⟩
  | scr ns =>
    cases r with
    | scr h =>
      refine ⟨_, _, rfl, ex_sq s.ex h, ?_⟩
      have := Reps.raws (K := K) (S := B) (ns.map V.int)
      rwa [List.map_map] at this
theorem cat_sem (s : Sta K B W H) (r : Rep K B v d) (q : CatD W d ds) : ∃ a xs, v = .ref a ∧ H a = some (.lst xs) ∧ Reps K B xs ds := by
  cases q with
  | lst ds => cases r with | lst h hs => exact ⟨_, _, rfl, s.ex _ _ h, hs⟩
  | own h =>
    cases r
    obtain ⟨xs, h1, h2⟩ := s.lst h
    exact ⟨_, xs, rfl, h1, h2⟩
theorem at_sem {xs : List V} {j : Int} (r : Reps K B xs ds) (h : atI ds j = some d) : ∃ v, atI xs j = some v ∧ Rep K B v d := by
  unfold atI at h ⊢
  rw [r.len]
  obtain ⟨n, h1, h2⟩ := Option.bind_eq_some_iff.mp h
  obtain ⟨v, h3, h4⟩ := r.get h2
  exact ⟨v, by rw [h1]; exact h3, h4⟩
theorem d_ixL {j : Int} (h : SeqD W x ds) (a : atI ds j = some d) (q : Q d W) : RD K (rIxL K) x (.raw (.int j)) W Q := fun B H v w k s r1 r2 hk => by
  cases r2
  obtain ⟨p, xs, rfl, h1, h2⟩ := seq_sem s r1 h
  obtain ⟨u, h3, h4⟩ := at_sem h2 a
  exact w_ixL h1 h3 (hk u B H d W (Evl.Ex.refl _) s h4 q)
theorem d_ixT {j : Int} (a : atI ds j = some d) (q : Q d W) : RD K (rIxT K) (.tup ds) (.raw (.int j)) W Q := fun B H v w k s r1 r2 hk => by
  cases r2
  cases r1 with
  | tup h hs =>
    obtain ⟨u, h3, h4⟩ := at_sem hs a
    exact w_ixT (ex_st s.ex h) h3 (hk u B H d W (Evl.Ex.refl _) s h4 q)
theorem d_ixS {z : Str} {j : Int} {c : Nat} (h : z.length ≤ sizeLine) (a : atI z.cps.toList j = some c) (q : Q (.raw (.str ⟨#[c]⟩)) W) : RD K rIxS (.raw (.str z)) (.raw (.int j)) W Q := rd_raw (fun _ _ => w_ixS h a) q
theorem d_lenL (h : SeqD W x ds) (q : Q (.raw (.int ds.length)) W) : RC K (Evl.rLenS K) [x] W Q := fun B H vs k s r hk => by
  cases r with
  | cons r1 r2 =>
    cases r2
    obtain ⟨p, xs, rfl, h1, h2⟩ := seq_sem s r1 h
    exact w_lenS h1 (by rw [h2.len]; exact hk _ B H _ W (Evl.Ex.refl _) s (.raw _) q)
theorem d_int1b {b : Bool} (q : Q (.raw (.int (if b then 1 else 0))) W) : RC K rInt1 [.raw (.bl b)] W Q := rc_raw1 (fun _ _ => w_int1b) q
theorem d_strI {j : Int} (h : j.natAbs.log2 < 1920) (q : Q (.raw (.str (toString j))) W) : RC K rStrI [.raw (.int j)] W Q := rc_raw1 (fun _ _ => w_strI h) q
def cutD {α : Type} (xs : List α) (lo hi : Option Int) : List α := (xs.drop (HT.sIx xs.length 0 lo)).take (HT.sIx xs.length xs.length hi - HT.sIx xs.length 0 lo)
theorem cut_sem {xs : List V} {lo hi : Option Int} (r : Reps K B xs ds) : Reps K B (cutV xs lo hi) (cutD ds lo hi) := by
  unfold cutV cutD
  rw [r.len]
  exact (r.drop _).take _
theorem we_sl {r : V → Option Int → Option Int → Hp → VK → Prop} {to th : TO} (q : WE K te e W fun x W1 => WO K to e W1 fun l W2 => WO K th e W2 fun u W3 => RS K r x l u W3 Q) : WE K (tSl r te to th) e W Q := fun B σ H k s r hk =>
  q B σ H _ s r fun v B1 H1 d W1 e1 s1 r1 q1 => q1 B1 σ H1 _ s1 (r.mono e1) fun l B2 H2 W2 e2 s2 q2 => q2 B2 σ H2 _ s2 ((r.mono e1).mono e2) fun u B3 H3 W3 e3 s3 q3 => q3 B3 H3 v k s3 ((r1.mono e2).mono e3) fun v B4 H4 d4 W4 e4 => hk v B4 H4 d4 W4 (((e1.trans e2).trans e3).trans e4)
theorem wo_no {QO : Option Int → Wd → Prop} (q : QO none W) : WO K tNoPart e W QO := fun B σ H k s r hk => hk none B H W (Evl.Ex.refl _) s q
theorem wo_part {QO : Option Int → Wd → Prop} (q : WE K te e W fun x W1 => ∃ i, x = .raw (.int i) ∧ QO (some i) W1) : WO K (tPart te) e W QO := fun B σ H k s r hk =>
  q B σ H _ s r fun v B1 H1 d W1 e1 s1 r1 q1 => by
    obtain ⟨j, rfl, q1⟩ := q1
    cases r1
    exact ⟨j, rfl, hk _ B1 H1 W1 e1 s1 q1⟩
theorem wo_i {j : Int} {P : Int → Prop} (q : P j) : ∃ i, D.raw (.int j) = .raw (.int i) ∧ P i := ⟨j, rfl, q⟩
theorem d_slL {lo hi : Option Int} (h : SeqD W x ds) (q : ∀ p, W p = none → Q (.ptr p) (wset W p (.lst (cutD ds lo hi)))) : RS K (rSlL K) x lo hi W Q := fun B H v k s r1 hk => by
  obtain ⟨p, xs, rfl, h1, h2⟩ := seq_sem s r1 h
  exact w_slL h1 fun l hl => hk _ B _ _ _ (Evl.Ex.refl _) (s.new hl (.lst (cut_sem h2))) (.raw _) (q l (s.nnone hl))
theorem we_tup (q : WA K tl e W fun ds W1 => ds.length ≤ sizeLine ∧ Q (.tup ds) W1) : WE K (tTup tl) e W Q := fun B σ H k s r hk =>
  w_tup (q B σ H _ s r fun vs B1 H1 ds W1 e1 s1 r1 q1 => ⟨by rw [r1.len]; exact q1.1, fun p hp => hk _ _ _ _ _ (e1.trans (s1.newB hp).2) (s1.newB hp).1 (.tup (SqT.of upd_same) (r1.mono (s1.newB hp).2)) q1.2⟩)
theorem we_lst (q : WA K tl e W fun ds W1 => ds.length ≤ sizeLine ∧ ∀ p, W1 p = none → Q (.ptr p) (wset W1 p (.lst ds))) : WE K (tLst tl) e W Q := fun B σ H k s r hk =>
  w_lst (q B σ H _ s r fun vs B1 H1 ds W1 e1 s1 r1 q1 => ⟨by rw [r1.len]; exact q1.1, fun p hp => hk _ _ _ _ _ e1 (s1.new hp (.lst r1)) (.raw _) (q1.2 p (s1.nnone hp))⟩)
theorem d_sz {n : Nat} {P : Prop} (h : n ≤ sizeLine) (q : P) : n ≤ sizeLine ∧ P := ⟨h, q⟩
theorem d_catQ (h1 : SeqD W x ds) (h2 : SeqD W y es) (hl : ds.length + es.length ≤ sizeLine) (q : ∀ p, W p = none → Q (.ptr p) (wset W p (.lst (ds ++ es)))) : RD K (rCatQ K) x y W Q := fun B H v w k s r1 r2 hk => by
  obtain ⟨a, xs, rfl, g1, g2⟩ := seq_sem s r1 h1
  obtain ⟨b, ys, rfl, g3, g4⟩ := seq_sem s r2 h2
  exact ⟨a, b, xs, ys, rfl, rfl, g1, g3, by rw [g2.len, g4.len]; exact hl, fun p hp => hk _ _ _ _ _ (Evl.Ex.refl _) (s.new hp (.lst (g2.app g4))) (.raw _) (q p (s.nnone hp))⟩
theorem reps_rep {xs : List V} (r : Reps K B xs ds) : ∀ n : Nat, Reps K B (List.replicate n xs).flatten (List.replicate n ds).flatten
  | 0 => .nil
  | n + 1 => by
    rw [List.replicate_succ, List.replicate_succ, List.flatten_cons, List.flatten_cons]
    exact r.app (reps_rep r n)
theorem d_rep {j : Int} (h : CatD W x ds) (h1 : -(2 ^ 63) ≤ j ∧ j < 2 ^ 63) (hl : ds.length * j.toNat ≤ sizeLine) (q : ∀ p, W p = none → Q (.ptr p) (wset W p (.lst (List.replicate j.toNat ds).flatten))) : RD K rRep x (.raw (.int j)) W Q := fun B H v w k s r1 r2 hk => by
  cases r2
  obtain ⟨a, xs, rfl, g1, g2⟩ := cat_sem s r1 h
  exact ⟨a, j, xs, rfl, rfl, g1, h1.1, h1.2, by rw [g2.len]; exact hl, fun p hp => hk _ _ _ _ _ (Evl.Ex.refl _) (s.new hp (.lst (reps_rep g2 _))) (.raw _) (q p (s.nnone hp))⟩
theorem d_list (h : SeqD W x ds) (q : ∀ p, W p = none → Q (.ptr p) (wset W p (.lst ds))) : RC K (rListOf K) [x] W Q := fun B H vs k s r hk => by
  cases r with
  | cons r1 r2 =>
    cases r2
    obtain ⟨a, xs, rfl, g1, g2⟩ := seq_sem s r1 h
    exact ⟨a, xs, rfl, .inl g1, fun p hp => hk _ _ _ _ _ (Evl.Ex.refl _) (s.new hp (.lst g2)) (.raw _) (q p (s.nnone hp))⟩
theorem fz_new {p : Addr} (h : W p = none) (q : Q (.lst ds) W) : FzQ Q (.raw (.ref p)) (wset W p (.lst ds)) := .inr (.inl ⟨p, ds, rfl, ws_same, by rw [we_ws h]; exact q⟩)
theorem fz_obj {p C : Addr} {fs : List (Str × D)} (h : W p = none) (q : Q (.obj C (fs.map (·.1)) (fs.map (·.2))) W) : FzQ Q (.raw (.ref p)) (wset W p (.ins C fs)) := .inr (.inr ⟨p, C, fs, rfl, ws_same, by rw [we_ws h]; exact q⟩)
theorem fz_id (q : Q d W) : FzQ Q d W := .inl q
theorem sub_q {W' : Wd} (h : Sub W' W) (q : Q d W') : SubQ Q d W := ⟨W', Vs.of h, q⟩
theorem d_sum {ns : List Int} (h : SeqD W x (ns.map D.int)) (q : Q (.raw (.int ns.sum)) W) : RC K (rSum K) [x] W Q := fun B H vs k s r hk => by
  cases r with
  | cons r1 r2 =>
    cases r2
    obtain ⟨a, xs, rfl, g1, g2⟩ := seq_sem s r1 h
    rw [g2.rawsI (f := V.int) rfl] at g1
    exact ⟨a, ns, rfl, g1, hk _ B H _ W (Evl.Ex.refl _) s (.raw _) q⟩
theorem we_m1 {r : V → List V → Hp → VK → Prop} (q : WE K ta e W fun x W1 => (∃ a, x = .raw (.str a)) ∧ WE K te e W1 fun y W2 => RM K r x [y] W2 Q) : WE K (tM1 r ta te) e W Q := fun B σ H k s r hk =>
  q B σ H _ s r fun v B1 H1 d W1 e1 s1 r1 q1 => by
    obtain ⟨⟨a, rfl⟩, q1⟩ := q1
    cases r1
    refine ⟨⟨a, rfl⟩, q1 B1 σ H1 _ s1 (r.mono e1) fun w B2 H2 d2 W2 e2 s2 r2 q2 => q2 B2 H2 _ _ k s2 (.raw _) (.cons r2 .nil) fun v B3 H3 d3 W3 e3 => hk v B3 H3 d3 W3 ((e1.trans e2).trans e3)⟩
theorem d_isS {a : Str} {P : Prop} (q : P) : (∃ b, D.raw (.str a) = .raw (.str b)) ∧ P := ⟨⟨a, rfl⟩, q⟩
theorem d_join {a : Str} {ys : List Str} (h : SeqD W x (ys.map D.str)) (hl : (ys.map (·.length)).sum + ys.length * a.length ≤ 16777216) (q : Q (.raw (.str (Txt.join a ys))) W) : RM K (rJoin K) (.raw (.str a)) [x] W Q := fun B H v vs k s r1 r2 hk => by
  cases r1
  cases r2 with
  | cons r2 r3 =>
    cases r3
    obtain ⟨p, xs, rfl, g1, g2⟩ := seq_sem s r2 h
    rw [g2.rawsI (f := V.str) rfl] at g1
    exact ⟨a, p, ys, rfl, rfl, .inl g1, hl, hk _ B H _ W (Evl.Ex.refl _) s (.raw _) q⟩
theorem we_bm {r : V → List V → Hp → VK → Prop} (q : WE K ta e W fun x W1 => (∃ ds, SeqD W1 x ds) ∧ WA K tl e W1 fun xs W2 => RM K r x xs W2 Q) : WE K (tBM K "list" r ta tl) e W Q := fun B σ H k s r hk =>
  q B σ H _ s r fun v B1 H1 d W1 e1 s1 r1 q1 => by
    obtain ⟨⟨ds, hd⟩, q1⟩ := q1
    obtain ⟨a, xs, rfl, g1, g2⟩ := seq_sem s1 r1 hd
    refine ⟨.inl ⟨rfl, xs, g1⟩, q1 B1 σ H1 _ s1 (r.mono e1) fun vs B2 H2 d2 W2 e2 s2 r2 q2 => q2 B2 H2 _ _ k s2 (r1.mono e2) r2 fun v B3 H3 d3 W3 e3 => hk v B3 H3 d3 W3 ((e1.trans e2).trans e3)⟩
theorem we_bm0 {r : V → List V → Hp → VK → Prop} (q : WE K ta e W fun x W1 => (∃ ds, SeqD W1 x ds) ∧ RM K r x [] W1 Q) : WE K (tBM0 K "list" r ta) e W Q := fun B σ H k s r hk =>
  q B σ H _ s r fun v B1 H1 d W1 e1 s1 r1 q1 => by
    obtain ⟨⟨ds, hd⟩, q1⟩ := q1
    obtain ⟨a, xs, rfl, g1, g2⟩ := seq_sem s1 r1 hd
    exact ⟨.inl ⟨rfl, xs, g1⟩, q1 B1 H1 _ _ k s1 r1 .nil fun v B3 H3 d3 W3 e3 => hk v B3 H3 d3 W3 (e1.trans e3)⟩
theorem d_seq {P : Prop} (h : SeqD W x ds) (q : P) : (∃ ds, SeqD W x ds) ∧ P := ⟨⟨ds, h⟩, q⟩
variable {a : Addr}
theorem d_app (h : W a = some (.lst ds)) (hl : ds.length < sizeLine) (q : Q (.raw .non) (wset W a (.lst (ds ++ [y])))) : RM K rAppend (.raw (.ref a)) [y] W Q := fun B H v vs k s r1 r2 hk => by
  cases r1
  cases r2 with
  | cons r2 r3 =>
    cases r3
    obtain ⟨xs, g1, g2⟩ := s.lst h
    exact w_app g1 (by rw [g2.len]; exact hl) (hk _ B _ _ _ (Evl.Ex.refl _) (s.set h (.lst (g2.app (.cons r2 .nil)))) (.raw _) q)
theorem d_clr (h : W a = some (.lst ds)) (q : Q (.raw .non) (wset W a (.lst []))) : RM K rClear (.raw (.ref a)) [] W Q := fun B H v vs k s r1 r2 hk => by
  cases r1; cases r2
  obtain ⟨xs, g1, g2⟩ := s.lst h
  exact w_clr g1 (hk _ B _ _ _ (Evl.Ex.refl _) (s.set h (.lst .nil)) (.raw _) q)
inductive FldD (W : Wd) (f : Str) : D → Addr → D → Prop
  | own {a C : Addr} {fs : List (Str × D)} {d : D} (h : W a = some (.ins C fs)) (l : fs.lookup f = some d) : FldD W f (.raw (.ref a)) C d
  | obj {C : Addr} {ns : List Str} {ds : List D} {d : D} (l : (ns.zip ds).lookup f = some d) : FldD W f (.obj C ns ds) C d
theorem zip_look {f : Str} {ns : List Str} {xs : List V} (h : Reps K B xs ds) (l : (ns.zip ds).lookup f = some d) : ∃ v, (ns.zip xs).lookup f = some v ∧ Rep K B v d := by
  induction ns generalizing xs ds with
  | nil => cases l
  | cons n ns ih =>
    cases h with
    | nil => cases l
    | cons h t =>
      rw [List.zip_cons_cons, List.lookup_cons] at l ⊢
      split at l
      · cases l; exact ⟨_, rfl, h⟩
      · exact ih t l
theorem we_fld {f : Str} (q : WE K ta e W fun x W1 => ∃ C d, FldD W1 f x C d ∧ Cls K C ∧ NoAttr K C f ∧ Q d W1) : WE K (tFld K ta f) e W Q := fun B σ H k s r hk =>
  q B σ H _ s r fun v B1 H1 d W1 e1 s1 r1 q1 => by
    obtain ⟨C, d2, hf, hc, hn, q1⟩ := q1
    cases hf with
    | own h l =>
      cases r1
      obtain ⟨dx, fs', g1, g2⟩ := s1.ins h
      obtain ⟨u, g3, g4⟩ := g2.look l
      exact ⟨_, C, dx, fs', u, rfl, g1, hc, hn, g3, hk u B1 H1 d2 W1 e1 s1 g4 q1⟩
    | obj l =>
      cases r1 with
      | obj h hl hs =>
        obtain ⟨u, g3, g4⟩ := zip_look hs l
        exact ⟨_, C, _, _, u, rfl, s1.ex _ _ h, hc, hn, g3, hk u B1 H1 d2 W1 e1 s1 g4 q1⟩
theorem d_fldO {f : Str} {C : Addr} {ns : List Str} {P : D → Prop} (c : Cls K C) (n : NoAttr K C f) (l : (ns.zip ds).lookup f = some d) (q : P d) : ∃ C' d, FldD W f (.obj C ns ds) C' d ∧ Cls K C' ∧ NoAttr K C' f ∧ P d := ⟨C, d, .obj l, c, n, q⟩
def putD (f : Str) (v : D) : List (Str × D) → List (Str × D)
  | [] => [(f, v)]
  | (g, x) :: r => if g = f then (g, v) :: r else (g, x) :: putD f v r
theorem put_sem {f : Str} {r : List (Str × V)} {q : List (Str × D)} (h : RepP K B r q) {v : V} {d : D} (g : Rep K B v d) : RepP K B (putF f v r) (putD f d q) := by
  induction h with
  | nil => exact .cons g .nil
  | cons h t ih =>
    rename_i k w dd r q
    show RepP K B (if k = f then _ else _) (if k = f then _ else _)
    split
    · exact .cons g t
    · exact .cons h ih
theorem ws_fld {f : Str} {tv : TE} (q : WE K tv e W fun y W1 => WE K ta e W1 fun x W2 => ∃ a C fs, x = .ptr a ∧ W2 a = some (.ins C fs) ∧ Cls K C ∧ NoAttr K C f ∧ fs.length < 1000 ∧ E.nx e (wset W2 a (.ins C (putD f y fs)))) : WS K (sFld K ta tv f) e W E := fun Dn B σ H s r h1 h2 h3 h4 =>
  q B σ H _ s r fun v B1 H1 d W1 e1 s1 r1 q1 => q1 B1 σ H1 _ s1 (r.mono e1) fun w B2 H2 d2 W2 e2 s2 r2 q2 => by
    obtain ⟨a, C, fs, rfl, g1, hc, hn, hl, q2⟩ := q2
    cases r2
    obtain ⟨dx, fs', g2, g3⟩ := s2.ins g1
    exact ⟨a, C, dx, fs', rfl, g2, hc, hn, by rw [g3.len]; exact hl, h1 σ B2 _ e _ (e1.trans e2) (s2.set g1 (.ins (put_sem g3 (r1.mono e2)))) (r.mono (e1.trans e2)) q2⟩
theorem d_sfld {f : Str} {C : Addr} {fs fs' : List (Str × D)} {P : Wd → Prop} (h : W a = some (.ins C fs)) (c : Cls K C) (n : NoAttr K C f) (l : fs.length < 1000) (he : putD f y fs = fs') (q : P (wset W a (.ins C fs'))) :
    ∃ a' C fs, D.raw (.ref a) = .ptr a' ∧ W a' = some (.ins C fs) ∧ Cls K C ∧ NoAttr K C f ∧ fs.length < 1000 ∧ P (wset W a' (.ins C (putD f y fs))) := ⟨a, C, fs, rfl, h, c, n, l, he ▸ q⟩
section
variable {κ : Type} [DecidableEq κ]
end
theorem d_isiL {n : String} {b : Bool} (h : SeqD W x ds) (hk : kitB "list" n = some b) (q : Q (.raw (.bl b)) W) : RC K (rIsi K) [x, .raw (.ty n)] W Q := fun B H vs k s r hq => by
  cases r with
  | cons r1 r2 =>
    cases r2 with
    | cons r2 r3 =>
      cases r2; cases r3
      obtain ⟨a, xs, rfl, g1, _⟩ := seq_sem s r1 h
      exact w_isiSL g1 hk (hq _ B H _ W (Evl.Ex.refl _) s (.raw _) q)
theorem d_isiI {n : String} {b : Bool} {j : Int} (hk : kitB "int" n = some b) (q : Q (.raw (.bl b)) W) : RC K (rIsi K) [.raw (.int j), .raw (.ty n)] W Q := rc_raw2 (fun _ _ => w_isiI hk) q
theorem d_isiS {n : String} {b : Bool} {j : Str} (hk : kitB "str" n = some b) (q : Q (.raw (.bl b)) W) : RC K (rIsi K) [.raw (.str j), .raw (.ty n)] W Q := rc_raw2 (fun _ _ => w_isiS hk) q
end
end
set_option Elab.async false
set_option linter.all false
set_option maxRecDepth 100000
set_option maxHeartbeats 2000000
set_option autoImplicit false
local macro_rules | `(tactic| walk_at "sd") => `(tactic| first | with_reducible assumption | with_reducible exact SeqD.lst _ | with_reducible exact SeqD.scr _ | ((with_reducible refine' SeqD.own ?h); (case h => walk_at "wk")) | ((with_reducible refine' SeqD.er ?m ?h); (case h => with_reducible assumption); (case m => walk_at "sub")))
local macro_rules | `(tactic| walk_at "cd") => `(tactic| first | with_reducible assumption | with_reducible exact CatD.lst _ | ((with_reducible refine' CatD.own ?h); (case h => walk_at "wk")))
local macro_rules | `(tactic| walk_at "mgoN") => `(tactic| (repeat (first | walk_at "mst" | walk_at "callm" | with_reducible refine' we_call ?_ | ((with_reducible show ∀ p, _ = none → _); intro p hp; refine fz_id ?_))))
local macro_rules | `(tactic| walk_at "keep") => `(tactic| (intro p hp; refine fz_id ?_; walk_at "mgo"))
local macro_rules | `(tactic| walk_at "dat") => `(tactic| (intro p hp; refine fz_new hp ?_; clear hp; try clear p; walk_at "mgo"))
section
open PySem L2
structure ItD where
  n : Nat
  dep : Wd → Prop
  grow : ∀ W W', Sub W W' → dep W → dep W'
  item : Nat → Option D
def ItOk (K : PySem.W.Frag) (B : Hp) (J : It) (I : ItD) : Prop := ∃ (G : Hp → Prop) (Y : Nat → Hp → V → Hp → Prop), Walk J I.n G Y ∧ (∀ B2 W2 H2, Ex B B2 → Sta K B2 W2 H2 → I.dep W2 → G H2) ∧
  ∀ i B2 W2 H2 x H3, i < I.n → Ex B B2 → Sta K B2 W2 H2 → I.dep W2 → Y i H2 x H3 → ∃ B3 d, Ex B2 B3 ∧ Sta K B3 W2 H3 ∧ I.item i = some d ∧ Rep K B3 x d
def WI (K : PySem.W.Frag) (wi : TI) (e : Env) (W : Wd) (QI : ItD → Wd → Prop) : Prop :=
  ∀ (B : Hp) (σ : L2.St) (H : Hp) (k : It → Hp → Prop), Sta K B W H → EnvR K B σ e → (∀ J B' H' I W', Ex B B' → Sta K B' W' H' → ItOk K B' J I → I.dep W' → QI I W' → k J H') → wi σ H k
def itS (x : D) (ds : List D) : ItD := ⟨ds.length, fun W => SeqD W x ds, fun _ _ m h => h.er m, fun i => ds[i]?⟩
def itR (lo c : Int) (n : Nat) : ItD := ⟨n, fun _ => True, fun _ _ _ h => h, fun i => some (.raw (.int (lo + (i : Nat) * c)))⟩
section
variable {K : PySem.W.Frag} {e : Env} {W : Wd} {te ta tb tx ty : TE} {Q : KD} {ts tu tw : TS} {E : DE} {x y z d : D} {i : Nat} {tr tl : TA} {B H : Hp} {v : V} {ds es : List D} {QI : ItD → Wd → Prop}
theorem it_list {a : Addr} (r : Rep K B (.ref a) x) : ItOk K B (Itl K a) (itS x ds) := by
  refine ⟨fun H => ∃ xs, SqL K H a xs ∧ xs.length = ds.length, fun i H y H' => H' = H ∧ ∀ xs, SqL K H a xs → xs[i]? = some y, ⟨fun i H hi q => ?_, fun H q => ?_, fun i H y H' hi q w => w⟩, fun B2 W2 H2 e2 s2 dp => ?_, fun i B2 W2 H2 y H3 hi e2 s2 dp w => ?_⟩
  · obtain ⟨xs, h1, h2⟩ := q
    exact ⟨xs, xs[i]'(by rw [h2]; exact hi), h1, by simp⟩
  · obtain ⟨xs, h1, h2⟩ := q
    exact ⟨xs, h1, Nat.le_of_eq h2⟩
  · obtain ⟨a', xs, h0, h1, h2⟩ := seq_sem s2 (r.mono e2) dp
    cases h0
    exact ⟨xs, h1, h2.len⟩
  · obtain ⟨a', xs, h0, h1, h2⟩ := seq_sem s2 (r.mono e2) dp
    cases h0
    obtain ⟨rfl, w⟩ := w
    obtain ⟨d, h3, h4⟩ := h2.get' (w xs h1)
    exact ⟨B2, d, Evl.Ex.refl _, s2, h3, h4⟩
theorem wi_list (q : WE K te e W fun x W1 => ∃ ds, SeqD W1 x ds ∧ QI (itS x ds) W1) : WI K (iList K te) e W QI := fun B σ H k s r hk =>
  q B σ H _ s r fun v B1 H1 d W1 e1 s1 r1 q1 => by
    obtain ⟨ds, h1, q1⟩ := q1
    obtain ⟨a, xs, rfl, h2, h3⟩ := seq_sem s1 r1 h1
    exact ⟨a, rfl, ⟨xs, h2⟩, hk _ B1 H1 _ W1 e1 s1 (it_list r1) h1 q1⟩
theorem d_sq {P : List D → Prop} (h : SeqD W x ds) (q : P ds) : ∃ ds, SeqD W x ds ∧ P ds := ⟨ds, h, q⟩
theorem it_rng {lo : Int} {n : Nat} : ItOk K B (Itr lo n) (itR lo 1 n) :=
  ⟨_, _, walk_range, fun _ _ _ _ _ _ => trivial, fun i B2 W2 H2 y H3 hi e2 s2 dp w => by
    obtain ⟨rfl, rfl⟩ := w
    exact ⟨B2, _, Evl.Ex.refl _, s2, by show some (D.raw (.int (lo + (i : Nat) * 1))) = _; rw [Int.mul_one], .raw _⟩⟩
theorem wi_rng1 (q : WA K tl e W fun ds W1 => ∃ j : Int, ds = [.raw (.int j)] ∧ (-(2 ^ 62) ≤ j ∧ j < 2 ^ 62) ∧ QI (itR 0 1 j.toNat) W1) : WI K (iRng1 tl) e W QI := fun B σ H k s r hk =>
  q B σ H _ s r fun vs B1 H1 ds W1 e1 s1 r1 q1 => by
    obtain ⟨j, rfl, ⟨h1, h2⟩, q1⟩ := q1
    cases r1 with
    | cons r1 r2 =>
      cases r1; cases r2
      exact ⟨j, rfl, h1, h2, hk _ B1 H1 _ W1 e1 s1 it_rng trivial q1⟩
theorem d_r1 {j : Int} {P : Int → Prop} (h : -(2 ^ 62) ≤ j ∧ j < 2 ^ 62) (q : P j) : ∃ i : Int, [D.raw (.int j)] = [.raw (.int i)] ∧ (-(2 ^ 62) ≤ i ∧ i < 2 ^ 62) ∧ P i := ⟨j, rfl, h, q⟩
theorem nx_id {P : Env → Wd → Prop} (q : P e W) : Nx P e W := ⟨e, W, EnvLe.refl _, Vs.refl _, q⟩
theorem nx_le {P : Env → Wd → Prop} {e' : Env} (l : EnvLe e' e) (q : P e' W) : Nx P e W := ⟨e', W, l, Vs.refl _, q⟩
theorem ws_for {wi : TI} {g : TG} (q : WI K wi e W fun I W1 => ∃ P : Nat → Env → Wd → Prop, Nx (P 0) e W1 ∧ (∀ i e' W', i ≤ I.n → P i e' W' → I.dep W') ∧
    (∀ i d e' W', i < I.n → I.item i = some d → P i e' W' → WG K g d e' W' fun e2 W2 => WS K ts e2 W2 { nx := Nx (P (i + 1)), ct := Nx (P (i + 1)), bk := E.nx, rt := E.rt }) ∧ ∀ e' W', P I.n e' W' → E.nx e' W') : WS K (tFor wi g ts) e W E := fun Dn B σ H s r h1 h2 h3 h4 =>
  q B σ H _ s r fun J B1 H1 I W1 e1 s1 ok dp q1 => by
    obtain ⟨P, p0, pd, ps, pe⟩ := q1
    obtain ⟨G, Y, w, hG, hY⟩ := ok
    have down : ∀ j σ' B' H' e' W', Ex B1 B' → Sta K B' W' H' → EnvR K B' σ' e' → Nx (P j) e' W' → ∃ B' e' W', Ex B1 B' ∧ Sta K B' W' H' ∧ EnvR K B' σ' e' ∧ P j e' W' := fun j σ' B' H' e' W' x s' r' q' => by
      obtain ⟨e2, W2, l2, m2, q2⟩ := q'
      exact ⟨B', e2, W2, x, m2 _ _ _ s', r'.le l2, q2⟩
    refine for_it w (fun i σ H => ∃ B' e' W', Ex B1 B' ∧ Sta K B' W' H ∧ EnvR K B' σ e' ∧ P i e' W') (down 0 _ _ _ _ _ (Evl.Ex.refl _) s1 (r.mono e1) p0) (fun i σ H hi p => ?_) ?_ ?_
    · obtain ⟨B', e', W', x, s', r', p'⟩ := p
      exact hG B' W' H x s' (pd i e' W' hi p')
    · rintro i x σ H H' hi ⟨B', e', W', x', s', r', p'⟩ y
      obtain ⟨B3, d, e3, s3, hd, r3⟩ := hY i B' W' H x H' hi x' s' (pd i e' W' (Nat.le_of_lt hi) p') y
      refine ps i d e' W' hi hd p' B3 σ H' x _ s3 (r'.mono e3) r3 fun σ2 B2 H2 e2 W2 x2 s2 r2 q2 => ?_
      exact q2 { Dn with nx := _, ct := _, bk := Dn.nx } B2 σ2 H2 s2 r2 (fun σ' B' H' e' W' x => down (i + 1) σ' B' H' e' W' (((x'.trans e3).trans x2).trans x)) (fun v B' H' d W' x => h2 v B' H' d W' ((((e1.trans x').trans e3).trans x2).trans x)) (fun σ' B' H' e' W' x => h1 σ' B' H' e' W' ((((e1.trans x').trans e3).trans x2).trans x)) fun σ' B' H' e' W' x => down (i + 1) σ' B' H' e' W' (((x'.trans e3).trans x2).trans x)
    · rintro σ H ⟨B', e', W', x', s', r', p'⟩
      exact h1 σ B' H e' W' (e1.trans x') s' r' (pe e' W' p')
def wipeD (e : Env) : List Nat → Env
  | [] => e
  | v :: vs => (wipeD e vs).set v none
theorem wipe_r {σ : L2.St} (r : EnvR K B σ e) : ∀ vs : List Nat, EnvR K B (wipe σ vs) (wipeD e vs)
  | [] => r
  | v :: vs => (wipe_r r vs).wipe1
theorem wipe_get (σ : L2.St) (i : Nat) : ∀ vs : List Nat, (wipe σ vs)[i]? = if i ∈ vs ∧ i < σ.length then some none else σ[i]?
  | [] => by simp [wipe]
  | v :: vs => by
    have ih := wipe_get σ i vs
    have hl := wipe_length σ vs
    unfold wipe
    rw [List.getElem?_set]
    by_cases h : v = i
    · subst h
      by_cases h2 : v < σ.length
      · simp [hl, h2]
      · simp [hl, h2, List.getElem?_eq_none (Nat.le_of_not_lt h2)]
    · rw [if_neg h, ih]
      by_cases h2 : i ∈ vs
      · simp [h2]
      · have : ¬ i = v := fun z => h z.symm
        simp [h2, this]
theorem wipe_wipe (σ : L2.St) (vs : List Nat) : wipe (wipe σ vs) vs = wipe σ vs := by
  refine List.ext_getElem? fun i => ?_
  rw [wipe_get, wipe_get, wipe_length]
  split <;> simp_all
theorem wipe_set {σ : L2.St} {vs : List Nat} {i : Nat} {x : Option V} (h : i ∈ vs) : wipe (σ.set i x) vs = wipe σ vs := by
  refine List.ext_getElem? fun j => ?_
  rw [wipe_get, wipe_get, List.length_set]
  by_cases z : j ∈ vs
  · by_cases l : j < σ.length
    · simp [z, l]
    · simp [z, l, List.getElem?_eq_none (Nat.le_of_not_lt l)]
  · have : ¬ i = j := fun q => z (q ▸ h)
    simp [z, List.getElem?_set_ne this]
def OwnG (g : TG) (vs : List Nat) : Prop := ∀ v σ H (P P' : L2.St → Hp → Prop), (∀ σ' H', wipe σ' vs = wipe σ vs → P σ' H' → P' σ' H') → g v σ H P → g v σ H P'
theorem own_name {vs : List Nat} (h : i ∈ vs) : OwnG (gName i) vs := fun v σ H P P' m q => m _ _ (wipe_set h) q
theorem we_lcF {wi : TI} {g : TG} {tt : TT} {vs : List Nat} (ow : OwnG g vs) (q : WI K wi e W fun I W1 => I.n ≤ 1000000 ∧ ∃ f : Nat → Option D,
    (∀ p i d L, W1 p = none → i < I.n → I.item i = some d → WG K g d (wipeD e vs) (wset W1 p (.lst L)) fun e2 W2 => WT K tt e2 W2 fun b W3 => if b = true then WE K te e2 W3 (FzQ (SubQ fun y W4 => f i = some y ∧ W4 = wset W1 p (.lst L))) else f i = none ∧ W3 = wset W1 p (.lst L)) ∧
    ∀ p, W1 p = none → Q (.ptr p) (wset W1 p (.lst ((List.range I.n).filterMap f)))) : WE K (tLc wi g tt te vs) e W Q := fun B σ H k s r hk =>
  q B σ H _ s r fun J B1 H1 I W1 e1 s1 ok dp q1 => by
    obtain ⟨hn, f, hs, hq⟩ := q1
    obtain ⟨G, Y, w, hG, hY⟩ := ok
    intro p hp
    have hWp := s1.nnone hp
    have hlen : ∀ i, ((List.range i).filterMap f).length ≤ i := fun i => by
      have h := List.length_filterMap_le f (List.range i)
      rwa [List.length_range] at h
    refine lc_it w (fun i H => ∃ B', Ex B1 B' ∧ Sta K B' (wset W1 p (.lst ((List.range i).filterMap f))) H) ⟨B1, Evl.Ex.refl _, s1.new hp (.lst .nil)⟩ (fun i H _ p' => ?_) ?_ ?_
    · obtain ⟨B', x, s'⟩ := p'
      exact hG B' _ H x s' (I.grow _ _ (Sub.new (Sub.refl _) hWp) dp)
    · rintro i x H H' hi ⟨B', x', s'⟩ y
      obtain ⟨B3, d, e3, s3, hd, r3⟩ := hY i B' _ H x H' hi x' s' (I.grow _ _ (Sub.new (Sub.refl _) hWp) dp) y
      have rw2 := (wipe_r (r.mono e1) vs).mono (x'.trans e3)
      have gg := hs p i d _ hWp hi hd B3 (wipe σ vs) H' x
        (k := fun σ2 H2 => tt σ2 H2 fun b H3 => if b = true then te σ2 H3 fun y H4 => ∃ acc, H4 p = some (.lst acc) ∧ acc.length < sizeLine ∧ ∃ B', Ex B1 B' ∧ Sta K B' (wset W1 p (.lst ((List.range (i + 1)).filterMap f))) (upd H4 p (.lst (acc ++ [y]))) else ∃ B', Ex B1 B' ∧ Sta K B' (wset W1 p (.lst ((List.range (i + 1)).filterMap f))) H3) s3 rw2 r3 ?_
      · refine ow _ _ _ _ _ (fun σ2 H2 w2 q2 => ?_) gg
        rw [wipe_wipe] at w2
        exact ⟨w2, q2⟩
      · intro σ2 B4 H4 e4 W4 x4 s4 r4 q4
        refine q4 B4 σ2 H4 _ s4 r4 fun b B5 H5 W5 x5 s5 q5 => ?_
        cases b with
        | false =>
          obtain ⟨q7, q8⟩ : f i = none ∧ W5 = wset W1 p (.lst ((List.range i).filterMap f)) := by simpa using q5
          subst q8
          refine iteF ⟨B5, ((x'.trans e3).trans x4).trans x5, ?_⟩
          have : [i].filterMap f = [] := by rw [List.filterMap_cons_none q7]; rfl
          rw [List.range_succ, List.filterMap_append, this, List.append_nil]
          exact s5
        | true =>
          have q5 : WE K te e4 W5 _ := q5
          refine iteT (we_subq (we_fz q5) B5 σ2 H5 _ s5 (r4.mono x5) fun v B6 H6 d6 W6 x6 s6 r6 q6 => ?_)
          obtain ⟨q6, rfl⟩ := q6
          obtain ⟨acc, h1, h2⟩ := s6.lst ws_same
          refine ⟨acc, h1, ?_, B6, (((x'.trans e3).trans x4).trans x5).trans x6, ?_⟩
          · rw [h2.len, sizeLine_eq]
            have := hlen i
            omega
          · have s7 := s6.set (c := .lst ((List.range i).filterMap f ++ [d6])) ws_same (.lst (h2.app (.cons r6 .nil)))
            rw [ws_ws] at s7
            have : [i].filterMap f = [d6] := by rw [List.filterMap_cons_some q6]; rfl
            rw [List.range_succ, List.filterMap_append, this]
            exact s7
    · rintro H ⟨B', x', s'⟩
      exact hk _ B' H _ _ (e1.trans x') s' (.raw _) (hq p hWp)
theorem fm_get {α : Type} (M : List α) : (List.range M.length).filterMap (fun i => M[i]?) = M := by
  induction M with
  | nil => rfl
  | cons a M ih =>
    rw [List.length_cons, List.range_succ_eq_map, List.filterMap_cons_some (b := a) (by rfl), List.filterMap_map]
    congr 1
theorem we_lcL {wi : TI} {g : TG} {vs : List Nat} (ow : OwnG g vs) (q : WI K wi e W fun I W1 => I.n ≤ 1000000 ∧ ∃ M : List D, M.length = I.n ∧
    (∀ p i d L, W1 p = none → i < I.n → I.item i = some d → WG K g d (wipeD e vs) (wset W1 p (.lst L)) fun e2 W2 => WE K te e2 W2 (FzQ (SubQ fun y W4 => M[i]? = some y ∧ W4 = wset W1 p (.lst L)))) ∧
    ∀ p, W1 p = none → Q (.ptr p) (wset W1 p (.lst M))) : WE K (tLc wi g tYes te vs) e W Q := by
  refine we_lcF ow fun B σ H k s r hk => q B σ H k s r fun J B' H' I W' x s' ok dp q' => hk J B' H' I W' x s' ok dp ?_
  obtain ⟨hn, M, hM, hs, hq⟩ := q'
  refine ⟨hn, fun i => M[i]?, fun p i d L hp hi hd B σ H v k s r rv hk => ?_, fun p hp => ?_⟩
  · refine hs p i d L hp hi hd B σ H v k s r rv fun σ2 B2 H2 e2 W2 x2 s2 r2 q2 => hk σ2 B2 H2 e2 W2 x2 s2 r2 fun B3 σ3 H3 k3 s3 r3 hk3 => hk3 true B3 H3 W2 (Evl.Ex.refl _) s3 (iteT q2)
  · rw [← hM]
    have : (List.range M.length).filterMap (fun i => M[i]?) = M := fm_get M
    rw [this]
    exact hq p hp
mutual
def pyD : D → Option PyData
  | .raw .non => some .none
  | .raw (.bl b) => some (.bool b)
  | .raw (.int i) => some (.int i)
  | .raw (.str z) => some (.str z)
  | .raw _ => none
  | .lst ds => (pyDs ds).map .list
  | .tup ds => (pyDs ds).map .tuple
  | .scr ns => some (.list (ns.map .int))
  | .obj _ _ _ => none
def pyDs : List D → Option (List PyData)
  | [] => some []
  | d :: r => (pyD d).bind fun p => (pyDs r).map fun q => p :: q
end
theorem pyDs_cons {d : D} {r : List D} {ps : List PyData} (h : pyDs (d :: r) = some ps) : ∃ p q, pyD d = some p ∧ pyDs r = some q ∧ ps = p :: q := by
  rw [pyDs] at h
  cases h1 : pyD d with
  | none => rw [h1] at h; cases h
  | some p =>
    cases h2 : pyDs r with
    | none => rw [h1, h2] at h; cases h
    | some q => rw [h1, h2] at h; cases h; exact ⟨p, q, rfl, rfl, rfl⟩
theorem ints_dp (ns : List Int) : DpAll K H (ns.map V.int) (ns.map PyData.int) := by
  induction ns with
  | nil => exact .nil
  | cons n ns ih => exact .cons (.int n) ih
mutual
theorem rep_dp (e : Ex B H) : ∀ {v : V} {d : D} {p : PyData}, Rep K B v d → pyD d = some p → Dp K H v p
  | _, _, p, .raw v, h => by
    cases v <;> simp [pyD] at h <;> subst h <;> constructor
  | _, _, p, .lst h1 hs, h => by
    simp [pyD] at h
    obtain ⟨ps, h2, rfl⟩ := h
    exact .lst (SqL.of (e _ _ h1)) (reps_dp e hs h2)
  | _, _, p, .tup h1 hs, h => by
    simp [pyD] at h
    obtain ⟨ps, h2, rfl⟩ := h
    exact .tup (ex_st e h1) (reps_dp e hs h2)
  | _, _, p, .obj .., h => by simp [pyD] at h
  | _, _, p, .scr h1, h => by
    simp [pyD] at h
    subst h
    exact .lst (ex_sq e h1) (ints_dp _)
theorem reps_dp (e : Ex B H) : ∀ {vs : List V} {ds : List D} {ps : List PyData}, Reps K B vs ds → pyDs ds = some ps → DpAll K H vs ps
  | _, _, ps, .nil, h => by simp [pyDs] at h; subst h; exact .nil
  | _, _, ps, .cons h1 h2, h => by
    obtain ⟨p, q, h3, h4, e2⟩ := pyDs_cons h
    subst e2
    exact .cons (rep_dp e h1 h3) (reps_dp e h2 h4)
end
inductive AtD (W : Wd) : D → D → Prop
  | id (d : D) : AtD W d d
  | own {a : Addr} {ds : List D} (h : W a = some (.lst ds)) : AtD W (.raw (.ref a)) (.lst ds)
theorem at_dp (s : Sta K B W H) (r : Rep K B v x) (h : AtD W x d) {p : PyData} (hp : pyD d = some p) : Dp K H v p := by
  cases h with
  | id => exact rep_dp s.ex r hp
  | own h =>
    cases r
    obtain ⟨xs, h1, h2⟩ := s.lst h
    simp [pyD] at hp
    obtain ⟨ps, h3, rfl⟩ := hp
    exact .lst (SqL.of h1) (reps_dp s.ex h2 h3)
theorem d_eqD {dx dy : D} {p q : PyData} {b : Bool} (hx : AtD W x dx) (hy : AtD W y dy) (h1 : pyD dx = some p) (h2 : pyD dy = some q) (s1 : SeqAt.shaped p = true) (s2 : SeqAt.shaped q = true) (e : PyData.eqv p q = b) (k : Q (.raw (.bl b)) W) : RD K (rEqD K) x y W Q := fun B H v w kk s r1 r2 hk =>
  w_eqD (at_dp s r1 hx h1) (at_dp s r2 hy h2) s1 s2 e (hk _ B H _ W (Evl.Ex.refl _) s (.raw _) k)
end
end
local macro_rules | `(tactic| walk_at "own") => `(tactic| first | ((with_reducible refine' own_name ?h); (case h => decide)) | ((with_reducible refine' own_tup ?h); (case h => walk_at "own")) | ((with_reducible refine' own_cons ?h1 ?h2); (case h1 => walk_at "own"); (case h2 => walk_at "own")) | with_reducible exact own_nil)
section
open PySem L2
section
variable {K : PySem.W.Frag} {e : Env} {W : Wd} {a b : Addr} {c u : Cell} {Q : KD} {x y d : D} {ds es : List D} {tl : TA} {te : TE}
theorem ne_w2 (h' : W b = none) (h : W a = some c) : a ≠ b := ne_w h h'
theorem ws_lk (h : b ≠ a) (h2 : W b = some u) : wset W a c b = some u := by rw [ws_ne h]; exact h2
theorem ws_non (h : wset W a c b = none) : W b = none := by
  by_cases z : b = a
  · subst z; rw [ws_same] at h; cases h
  · rwa [ws_ne z] at h
theorem putD_nil {f : Str} {v : D} : putD f v [] = [(f, v)] := rfl
theorem putD_miss {f k : Str} {v w : D} {r r' : List (Str × D)} (h : ¬ k = f) (e : putD f v r = r') : putD f v ((k, w) :: r) = (k, w) :: r' := by
  show (if k = f then _ else (k, w) :: putD f v r) = _
  rw [if_neg h, e]
theorem wg_tupL {n : Nat} {u : TGs} {QE : Env → Wd → Prop} {xs : List D} (q : xs.length = n ∧ WGs K u xs e W QE) : WG K (gTup K n u) (.tup xs) e W QE := wg_tup q.1 q.2
theorem rc_fz {r : List V → Hp → VK → Prop} {xs : List D} (q : RC K r xs W (FzQ Q)) : RC K r xs W Q := fun B H vs k s r1 hk => q B H vs k s r1 fun v B' H' d W' e1 s1 r1 q1 => fz_sem s1 r1 q1 fun v2 B2 H2 d2 W2 e2 s2 r2 q2 => hk v2 B2 H2 d2 W2 (e1.trans e2) s2 r2 q2
theorem rd_fz {r : R2} (q : RD K r x y W (FzQ Q)) : RD K r x y W Q := fun B H v w k s r1 r2 hk => q B H v w k s r1 r2 fun v B' H' d W' e1 s1 r1 q1 => fz_sem s1 r1 q1 fun v2 B2 H2 d2 W2 e2 s2 r2 q2 => hk v2 B2 H2 d2 W2 (e1.trans e2) s2 r2 q2
theorem rs_fz {r : V → Option Int → Option Int → Hp → VK → Prop} {lo hi : Option Int} (q : RS K r x lo hi W (FzQ Q)) : RS K r x lo hi W Q := fun B H v k s r1 hk => q B H v k s r1 fun v B' H' d W' e1 s1 r1 q1 => fz_sem s1 r1 q1 fun v2 B2 H2 d2 W2 e2 s2 r2 q2 => hk v2 B2 H2 d2 W2 (e1.trans e2) s2 r2 q2
theorem we_lstF (q : WA K tl e W fun ds W1 => ds.length ≤ sizeLine ∧ ∀ p, W1 p = none → FzQ Q (.ptr p) (wset W1 p (.lst ds))) : WE K (tLst tl) e W Q := we_fz (we_lst q)
theorem d_catQF (h1 : SeqD W x ds) (h2 : SeqD W y es) (hl : ds.length + es.length ≤ sizeLine) (q : ∀ p, W p = none → FzQ Q (.ptr p) (wset W p (.lst (ds ++ es)))) : RD K (rCatQ K) x y W Q := rd_fz (d_catQ h1 h2 hl q)
theorem d_listF (h : SeqD W x ds) (q : ∀ p, W p = none → FzQ Q (.ptr p) (wset W p (.lst ds))) : RC K (rListOf K) [x] W Q := rc_fz (d_list h q)
theorem d_slLF {lo hi : Option Int} (h : SeqD W x ds) (q : ∀ p, W p = none → FzQ Q (.ptr p) (wset W p (.lst (cutD ds lo hi)))) : RS K (rSlL K) x lo hi W Q := rs_fz (d_slL h q)
theorem we_lcLF {wi : TI} {g : TG} {vs : List Nat} (ow : OwnG g vs) (q : WI K wi e W fun I W1 => I.n ≤ 1000000 ∧ ∃ M : List D, M.length = I.n ∧
    (∀ p i d L, W1 p = none → i < I.n → I.item i = some d → WG K g d (wipeD e vs) (wset W1 p (.lst L)) fun e2 W2 => WE K te e2 W2 (FzQ (SubQ fun y W4 => M[i]? = some y ∧ W4 = wset W1 p (.lst L)))) ∧
    ∀ p, W1 p = none → FzQ Q (.ptr p) (wset W1 p (.lst M))) : WE K (tLc wi g tYes te vs) e W Q := we_fz (we_lcL ow q)
theorem ret_dat {W' : Wd} {P : KD} (m : Sub W W') (q : P d W) : FzQ (SubQ P) d W' := .inl ⟨W, Vs.of m, q⟩
theorem lift_vs {p : PF} {t : TS} {N : List Str} {vs : List V} {H : Hp} {Qv : VK} {Ex : XK} (h : lift K p vs H Qv Ex) (g : ∀ ds W Q, p ds W Q → WS K t (startD N ds) W ⟨fun _ W' => SubQ Q .non W', Q, fun _ _ => False, fun _ _ => False⟩) :
    t { nx := fun _ H' => Qv .non H', rt := Qv } (L2.start N vs) H := by
  obtain ⟨B, W, ds, Q0, s, r, hp, k⟩ := h
  exact g ds W Q0 hp { nx := fun _ H' => Qv .non H', rt := Qv } B (L2.start N vs) H s (start_r r) (fun σ' B' H' e' W' x s' _ q => by
    obtain ⟨W2, m, q⟩ := q
    exact k .non B' H' .non W2 x (m _ _ _ s') (.raw _) q) (fun v B' H' d W' x s' r' q => k v B' H' d W' x s' r' q) (fun _ _ _ _ _ _ _ _ q => q.elim) (fun _ _ _ _ _ _ _ _ q => q.elim)
section
variable {QI : ItD → Wd → Prop} {H B : Hp}
end
def W0 : Wd := fun _ => none
theorem law_pure {t : TS} {N : List Str} {vs : List V} {H : Hp} {Qv : VK} {Ex : XK} (h : spLaw K vs H Qv Ex) (g : ∀ ns : List Int, ns.length ≤ 63 → WS K t (startD N [.scr ns]) W0 ⟨fun _ _ => False, fun r _ => r = .raw (.bl true), fun _ _ => False, fun _ _ => False⟩) :
    t { nx := fun _ H' => Qv .non H', rt := Qv } (L2.start N vs) H := by
  obtain ⟨a, ns, rfl, hS, hl, k⟩ := h
  refine g ns hl { nx := fun _ H' => Qv .non H', rt := Qv } H (L2.start N [.ref a]) H (.of ⟨Evl.Ex.refl _, fun _ _ q => by cases q⟩) (start_r (.cons (.scr hS) .nil)) (fun _ _ _ _ _ _ _ _ q => q.elim) (fun v B' H' r W' _ _ r' q => ?_) (fun _ _ _ _ _ _ _ _ q => q.elim) (fun _ _ _ _ _ _ _ _ q => q.elim)
  subst q
  cases r'
  exact k H'
end
end
set_option Elab.async false
set_option linter.all false
set_option maxRecDepth 100000
set_option maxHeartbeats 1000000
set_option autoImplicit false
local macro_rules | `(tactic| walk_at "wne") => `(tactic| first | with_reducible assumption | exact Ne.symm (by with_reducible assumption) | ((refine' ne_w2 ?h2 ?h1); (case h2 => with_reducible assumption); (case h1 => walk_at "wk")) | ((refine' ne_w2s ?h2 ?h1); (case h2 => with_reducible assumption); (case h1 => walk_at "wk")))
local macro_rules | `(tactic| walk_at "wk") => `(tactic| first | with_reducible assumption | with_reducible exact ws_same | ((with_reducible refine' ws_lk ?h1 ?h2); (case h1 => walk_at "wne"); (case h2 => walk_at "wk")) | ((with_reducible refine' we_lk ?h1 ?h2); (case h1 => walk_at "wne"); (case h2 => walk_at "wk")))
local macro_rules | `(tactic| walk_at "wn") => `(tactic| first | with_reducible assumption | ((with_reducible refine' ws_non ?h); (case h => with_reducible assumption)) | ((with_reducible refine' ws_non (ws_non ?h)); (case h => with_reducible assumption)) | ((with_reducible refine' ws_non (ws_non (ws_non ?h))); (case h => with_reducible assumption)))
local macro_rules | `(tactic| walk_at "mputf") => `(tactic| first | exact putD_nil | exact putD_hit | exact putD_miss (by decide) (by walk_at "mputf"))
local macro_rules | `(tactic| walk_at "mst") => `(tactic| first | with_reducible rw [ws_ws] | fail)
local macro_rules | `(tactic| walk_at "mst") => `(tactic| first | with_reducible refine' wi_items ?_ | ((with_reducible refine' d_it ?h ?_); (case h => walk_at "wk")) | fail)
local macro_rules | `(tactic| walk_at "mst") => `(tactic| first | ((with_reducible refine' we_lcLF ?ow ?_); (case ow => walk_at "own")) | with_reducible refine' wt_yes ?_ | fail)
local macro_rules | `(tactic| walk_at "mst") => `(tactic| first | ((with_reducible refine' d_listF ?h ?_); (case h => walk_at "sd")) | with_reducible refine' d_listTF ?_ | fail)
local macro_rules | `(tactic| walk_at "mst") => `(tactic| first | ((with_reducible refine' d_clr ?h ?_); (case h => walk_at "wk")) | ((with_reducible refine' d_rev ?h ?_); (case h => walk_at "wk")) | fail)
local macro_rules | `(tactic| walk_at "mst") => `(tactic| first | ((with_reducible refine' d_app ?h ?hl ?_); (case h => walk_at "wk"); (case hl => walk_at "msm")) | ((with_reducible refine' d_ext ?h ?h2 ?hl ?_); (case h => walk_at "wk"); (case h2 => walk_at "cd"); (case hl => walk_at "msm")) | fail)
local macro_rules | `(tactic| walk_at "mst") => `(tactic| first | ((with_reducible refine' d_catF ?h1 ?h2 ?h3 ?_); (case h1 => walk_at "cd"); (case h2 => walk_at "cd"); (case h3 => walk_at "msm")) | ((with_reducible refine' d_catQF ?h1 ?h2 ?h3 ?_); (case h1 => walk_at "sd"); (case h2 => walk_at "sd"); (case h3 => walk_at "msm")) | fail)
local macro_rules | `(tactic| walk_at "mst") => `(tactic| first | ((with_reducible refine' d_slS ?h ?_); (case h => walk_at "msm")) | ((with_reducible refine' d_sz ?h ?_); (case h => walk_at "msm")) | fail)
local macro_rules | `(tactic| walk_at "mst") => `(tactic| first | ((with_reducible refine' d_ixAT ?h2 ?_); (case h2 => rfl)) | ((with_reducible refine' d_lenStr ?h ?_); (case h => walk_at "msm")) | fail)
local macro_rules | `(tactic| walk_at "mst") => `(tactic| first | ((with_reducible refine' d_ixT ?h2 ?_); (case h2 => rfl)) | ((with_reducible refine' d_ixAL ?h1 ?h2 ?_); (case h1 => walk_at "sd"); (case h2 => rfl)) | fail)
local macro_rules | `(tactic| walk_at "mst") => `(tactic| first | with_reducible refine' d_ip ?_ | ((with_reducible refine' d_ixL ?h1 ?h2 ?_); (case h1 => walk_at "sd"); (case h2 => rfl)) | fail)
local macro_rules | `(tactic| walk_at "mst") => `(tactic| first | ((with_reducible refine' d_slLF ?h ?_); (case h => walk_at "sd")) | ((with_reducible refine' ws_aug ?h ?_); (case h => rfl)) | fail)
local macro_rules | `(tactic| walk_at "mst") => `(tactic| first | ((with_reducible refine' d_lenL ?h ?_); (case h => walk_at "sd")) | ((with_reducible refine' d_lenD ?h ?_); (case h => walk_at "wk")) | fail)
local macro_rules | `(tactic| walk_at "mst") => `(tactic| first | ((with_reducible refine' w_ff ?h ?_); (case h => first | exact dB_f (by decide) | exact nB_f (by decide) | decide)) | with_reducible refine' d_lenT ?_ | fail)
local macro_rules | `(tactic| walk_at "mst") => `(tactic| first | with_reducible refine' w_ffL ?_ | ((with_reducible refine' w_tt ?h ?_); (case h => first | exact dB_t (by decide) | exact nB_t (by decide) | decide)) | fail)
local macro_rules | `(tactic| walk_at "mst") => `(tactic| first | ((with_reducible refine' d_i ?h ?_); (case h => walk_at "sc")) | with_reducible refine' w_ttL ?_ | fail)
local macro_rules | `(tactic| walk_at "mst") => `(tactic| first | ((with_reducible refine' d_isiT ?h ?_); (case h => walk_at "kit")) | ((with_reducible refine' d_isiL ?h ?hk ?_); (case h => walk_at "sd"); (case hk => walk_at "kit")) | fail)
local macro_rules | `(tactic| walk_at "mst") => `(tactic| first | ((with_reducible refine' d_isiN ?h ?_); (case h => walk_at "kit")) | ((with_reducible refine' d_isiS ?h ?_); (case h => walk_at "kit")) | fail)
local macro_rules | `(tactic| walk_at "mst") => `(tactic| first | ((with_reducible refine' d_isiI ?h ?_); (case h => walk_at "kit")) | ((with_reducible refine' d_isiB ?h ?_); (case h => walk_at "kit")) | fail)
local macro_rules | `(tactic| walk_at "mst") => `(tactic| first | with_reducible refine' we_methI ?_ | ((with_reducible refine' d_mat ?h ?_); (case h => walk_at "mat")) | fail)
local macro_rules | `(tactic| walk_at "mst") => `(tactic| first | with_reducible refine' d_max2 ?_ | with_reducible refine' d_min2 ?_ | fail)
local macro_rules | `(tactic| walk_at "mst") => `(tactic| first | with_reducible refine' ws_par ?_ | with_reducible refine' d_v2 ?_ | fail)
local macro_rules | `(tactic| walk_at "mst") => `(tactic| first | with_reducible refine' d_inS ?_ | with_reducible refine' d_ninS ?_ | fail)
local macro_rules | `(tactic| walk_at "mst") => `(tactic| first | with_reducible refine' d_geS ?_ | ((with_reducible refine' d_addS ?h ?_); (case h => walk_at "msm")) | fail)
local macro_rules | `(tactic| walk_at "mst") => `(tactic| first | with_reducible refine' d_leS ?_ | with_reducible refine' d_gtS ?_ | fail)
local macro_rules | `(tactic| walk_at "mst") => `(tactic| first | with_reducible refine' d_ge ?_ | with_reducible refine' d_ltS ?_ | fail)
local macro_rules | `(tactic| walk_at "mst") => `(tactic| first | with_reducible refine' d_le ?_ | with_reducible refine' d_gt ?_ | fail)
local macro_rules | `(tactic| walk_at "mst") => `(tactic| first | with_reducible refine' we_chain ?_ | with_reducible refine' d_lt ?_ | fail)
local macro_rules | `(tactic| walk_at "mst") => `(tactic| first | with_reducible refine' ws_brk ?_ | with_reducible refine' ws_cont ?_ | fail)
local macro_rules | `(tactic| walk_at "mst") => `(tactic| first | with_reducible refine' wo_i ?_ | with_reducible refine' ws_retN ?_ | fail)
local macro_rules | `(tactic| walk_at "mst") => `(tactic| first | with_reducible refine' wo_no ?_ | with_reducible refine' wo_part ?_ | fail)
local macro_rules | `(tactic| walk_at "mst") => `(tactic| first | with_reducible refine' we_lstF ?_ | with_reducible refine' we_sl ?_ | fail)
local macro_rules | `(tactic| walk_at "mst") => `(tactic| first | with_reducible refine' d_int1b ?_ | with_reducible refine' we_tup ?_ | fail)
local macro_rules | `(tactic| walk_at "mst") => `(tactic| first | with_reducible refine' d_notNR ?_ | with_reducible refine' d_int1 ?_ | fail)
local macro_rules | `(tactic| walk_at "mst") => `(tactic| first | with_reducible refine' d_notNI ?_ | with_reducible refine' d_notNS ?_ | fail)
local macro_rules | `(tactic| walk_at "mst") => `(tactic| first | with_reducible refine' d_isNR ?_ | with_reducible refine' d_notNN ?_ | fail)
local macro_rules | `(tactic| walk_at "mst") => `(tactic| first | with_reducible refine' d_isNI ?_ | with_reducible refine' d_isNS ?_ | fail)
local macro_rules | `(tactic| walk_at "mst") => `(tactic| first | with_reducible refine' d_u ?_ | with_reducible refine' d_isNN ?_ | fail)
local macro_rules | `(tactic| walk_at "mst") => `(tactic| first | with_reducible refine' ws_drop ?_ | with_reducible refine' we_un ?_ | fail)
local macro_rules | `(tactic| walk_at "mst") => `(tactic| first | with_reducible refine' we_notV ?_ | with_reducible refine' we_if ?_ | fail)
local macro_rules | `(tactic| walk_at "mst") => `(tactic| first | with_reducible refine' we_andV ?_ | with_reducible refine' we_orV ?_ | fail)
local macro_rules | `(tactic| walk_at "mst") => `(tactic| first | with_reducible refine' we_or ?_ | with_reducible refine' we_not ?_ | fail)
local macro_rules | `(tactic| walk_at "mst") => `(tactic| first | with_reducible refine' we_cb ?_ | with_reducible refine' we_and ?_ | fail)
local macro_rules | `(tactic| walk_at "mst") => `(tactic| first | with_reducible refine' d_isS ?_ | with_reducible refine' ws_next ?_ | fail)
local macro_rules | `(tactic| walk_at "mst") => `(tactic| first | with_reducible refine' wgs_nil ?_ | with_reducible refine' we_m1 ?_ | fail)
local macro_rules | `(tactic| walk_at "mst") => `(tactic| first | with_reducible refine' wg_tupL ?_ | with_reducible refine' wgs_cons ?_ | fail)
local macro_rules | `(tactic| walk_at "mst") => `(tactic| first | with_reducible refine' wi_zip ?_ | ((with_reducible refine' d_two ?h ?h2 ?_); (case h => walk_at "sd"); (case h2 => walk_at "sd")) | fail)
local macro_rules | `(tactic| walk_at "mst") => `(tactic| first | with_reducible refine' wi_rev ?_ | ((with_reducible refine' d_one ?h ?_); (case h => walk_at "sd")) | fail)
local macro_rules | `(tactic| walk_at "mst") => `(tactic| first | with_reducible refine' wi_rng3 ?_ | with_reducible refine' wi_enum ?_ | fail)
local macro_rules | `(tactic| walk_at "mst") => `(tactic| first | with_reducible refine' wi_rng2 ?_ | ((with_reducible refine' d_r2 ?h ?_); (case h => omega)) | fail)
local macro_rules | `(tactic| walk_at "mst") => `(tactic| first | with_reducible refine' wi_rng1 ?_ | ((with_reducible refine' d_r1 ?h ?_); (case h => omega)) | fail)
local macro_rules | `(tactic| walk_at "mst") => `(tactic| first | with_reducible refine' wi_str ?_ | with_reducible refine' d_st ?_ | fail)
local macro_rules | `(tactic| walk_at "mst") => `(tactic| first | with_reducible refine' wi_tup ?_ | with_reducible refine' d_tp ?_ | fail)
local macro_rules | `(tactic| walk_at "mst") => `(tactic| first | with_reducible refine' wi_list ?_ | ((with_reducible refine' d_sq ?h ?_); (case h => walk_at "sd")) | fail)
local macro_rules | `(tactic| walk_at "mst") => `(tactic| first | with_reducible refine' we_bm0 ?_ | ((with_reducible refine' d_seq ?h ?_); (case h => walk_at "sd")) | fail)
local macro_rules | `(tactic| walk_at "mst") => `(tactic| first | with_reducible refine' we_dnew ?_ | with_reducible refine' we_bm ?_ | fail)
local macro_rules | `(tactic| walk_at "mst") => `(tactic| first | ((with_reducible refine' d_dinS ?h ?_); (case h => walk_at "dd")) | with_reducible refine' ws_dput ?_ | fail)
local macro_rules | `(tactic| walk_at "mst") => `(tactic| first | with_reducible refine' we_dnotin ?_ | ((with_reducible refine' d_dinI ?h ?_); (case h => walk_at "dd")) | fail)
local macro_rules | `(tactic| walk_at "mst") => `(tactic| first | with_reducible refine' we_dget ?_ | with_reducible refine' we_din ?_ | fail)
local macro_rules | `(tactic| walk_at "mst") => `(tactic| first | with_reducible refine' ws_fld ?_ | ((with_reducible refine' d_sfld ?h ?c ?n ?l ?he ?_); (case h => walk_at "wk"); (case c => assumption); (case n => assumption); (case he => walk_at "mputf"); (case l => (simp only [List.length_cons, List.length_nil]; omega))) | fail)
local macro_rules | `(tactic| walk_at "mst") => `(tactic| first | ((with_reducible refine' d_fldW ?h ?c ?n ?l ?_); (case h => walk_at "wk"); (case c => assumption); (case n => assumption); (case l => rfl)) | ((with_reducible refine' d_fldO ?c ?n ?l ?_); (case c => assumption); (case n => assumption); (case l => rfl)) | fail)
local macro_rules | `(tactic| walk_at "mst") => `(tactic| first | with_reducible refine' ws_for ?_ | with_reducible refine' we_fld ?_ | fail)
local macro_rules | `(tactic| walk_at "mst") => `(tactic| first | with_reducible refine' d_neS ?_ | with_reducible refine' ws_ret ?_ | fail)
local macro_rules | `(tactic| walk_at "mst") => `(tactic| first | with_reducible refine' d_neI ?_ | with_reducible refine' d_eqS ?_ | fail)
local macro_rules | `(tactic| walk_at "mst") => `(tactic| first | with_reducible refine' we_bl ?_ | with_reducible refine' d_eqI ?_ | fail)
local macro_rules | `(tactic| walk_at "mst") => `(tactic| first | with_reducible refine' we_test ?_ | with_reducible refine' we_tB ?_ | fail)
local macro_rules | `(tactic| walk_at "mst") => `(tactic| first | ((with_reducible refine' wg_name ?e ?_); (case e => walk_at "set")) | with_reducible refine' ws_if ?_ | fail)
local macro_rules | `(tactic| walk_at "mst") => `(tactic| first | with_reducible refine' wa_nil ?_ | with_reducible refine' ws_asg ?_ | fail)
local macro_rules | `(tactic| walk_at "mst") => `(tactic| first | with_reducible refine' d_i0 ?_ | with_reducible refine' wa_cons ?_ | fail)
local macro_rules | `(tactic| walk_at "mst") => `(tactic| first | ((with_reducible refine' we_var ?h ?_); (case h => rfl)) | with_reducible refine' we_c ?_ | fail)
local macro_rules | `(tactic| walk_at "mst") => `(tactic| first | with_reducible refine' ws_seq ?_ | with_reducible refine' we_op ?_ | fail)
section
open PySem L2
local macro_rules | `(tactic| walk_at "set") => `(tactic| ((try simp only [List.set_cons_succ, List.set_cons_zero]); rfl))
local macro_rules | `(tactic| walk_at "sc") => `(tactic| first | assumption | decide | omega | (unfold CMul; omega) | (unfold CDiv; omega) | (unfold CPow; decide) | (unfold CDiv; decide))
local macro_rules | `(tactic| walk_at "go") => `(tactic| (repeat (first | walk_at "step" | walk_at "callx")))
local macro_rules | `(tactic| walk_at "goN") => `(tactic| (repeat (first | walk_at "step" | walk_at "callx" | ((with_reducible show ∀ p, _ = none → _); walk_at "new"))))
local macro_rules | `(tactic| walk_at "len") => `(tactic| first
  | (obtain ⟨rfl, _⟩ := h; rfl) | (obtain ⟨_, rfl, _⟩ := h; rfl) | (obtain ⟨_, _, rfl, _⟩ := h; rfl) | (obtain ⟨_, _, _, rfl, _⟩ := h; rfl) | (obtain ⟨_, _, _, _, rfl, _⟩ := h; rfl)
  | (obtain ⟨_, _, _, _, _, rfl, _⟩ := h; rfl) | (obtain ⟨_, _, _, _, _, _, rfl, _⟩ := h; rfl) | (obtain ⟨_, _, _, _, _, _, _, rfl, _⟩ := h; rfl) | (obtain ⟨_, _, _, _, _, _, _, _, rfl, _⟩ := h; rfl)
  | (obtain ⟨_, _, _, _, _, _, _, _, _, rfl, _⟩ := h; rfl) | (obtain ⟨_, _, _, _, _, _, _, _, _, _, rfl, _⟩ := h; rfl))
local macro_rules | `(tactic| walk_at "dd") => `(tactic| first | with_reducible assumption | ((with_reducible refine' DctD.own ?h); (case h => walk_at "wk")) | ((with_reducible refine' DctD.lock ?h); (case h => walk_at "wk")))
local macro_rules | `(tactic| walk_at "mat") => `(tactic| first | ((with_reducible refine' MAt.ins ?h ?l); (case h => walk_at "wk"); (case l => rfl)) | ((with_reducible refine' log_mat ?h ?l ?l2); (case h => walk_at "wk"); (case l => decide +kernel); (case l2 => decide +kernel)))
local macro_rules | `(tactic| walk_at "mkp") => `(tactic| first | with_reducible refine' mk_Let ?_ | with_reducible refine' mk_Reckon ?_ | with_reducible refine' mk_Take ?_ | with_reducible refine' mk_Put ?_ | with_reducible refine' mk_If ?_ | with_reducible refine' mk_Either ?_ | with_reducible refine' mk_Try ?_ | with_reducible refine' mk_Throw ?_ | with_reducible refine' mk_Wait ?_ | with_reducible refine' ex_si ?_ | with_reducible refine' ex_ss ?_ | with_reducible refine' ex_ssss ?_)
local macro_rules | `(tactic| walk_at "isim") => `(tactic| first | ((with_reducible refine' m_isi_let_ ?t ?k ?h ?e ?_); (case t => assumption); (case e => assumption); (case h => rfl)) | ((with_reducible refine' m_isi_rk ?t ?k ?h ?e ?_); (case t => assumption); (case e => assumption); (case h => rfl)) | ((with_reducible refine' m_isi_take ?t ?k ?h ?e ?_); (case t => assumption); (case e => assumption); (case h => rfl)) | ((with_reducible refine' m_isi_put ?t ?k ?h ?e ?_); (case t => assumption); (case e => assumption); (case h => rfl)) | ((with_reducible refine' m_isi_throw ?t ?k ?h ?e ?_); (case t => assumption); (case e => assumption); (case h => rfl)) | ((with_reducible refine' m_isi_iff ?t ?k ?h ?e ?_); (case t => assumption); (case e => assumption); (case h => rfl)) | ((with_reducible refine' m_isi_eith ?t ?k ?h ?e ?_); (case t => assumption); (case e => assumption); (case h => rfl)) | ((with_reducible refine' m_isi_tryy ?t ?k ?h ?e ?_); (case t => assumption); (case e => assumption); (case h => rfl)))
def tMakeO (C : Addr) : TE := fun _ H Q => ∀ x dx, H x = none → H dx = none → dx ≠ x → Q (.ref x) (upd (upd H dx (.own x)) x (.ins C dx []))
structure MkO (K : PySem.W.Frag) (C : Addr) : Prop where
  makes : PySem.W.makesIn K C = true
  init : PySem.W.findIn K (.ref C) "__init__" = some (some (.builtin "object.__init__"))
  kp : PySem.W.keepIn K (.ref C) = true
section
open PySem.W PyProof.Rows PySem.Spec
variable {X : Cx} {C : Addr} {x : Str} {p pos : Pos}
theorem pe_makeO (M : MkO X.K C) (hg : Gl X x) (hm : X.mg x = some (.ref C)) (hdb : (x == ("__debug__" : Str)) = false := by decide) : PE X (.Call (.Name x p) [] [] pos) (tMakeO C) := by
  refine ⟨fun pins s σ H Q I h => ?_⟩
  refine wpAny_Call_Name_kw (ld_glob I hg hm ?_ hdb)
  refine PySem.W.callWith_K0 I.kIn M.kp ?_
  have I2 := Inv.made (C := C) I
  have z : EP X pins σ Q (.ref (s.heap.objs.size + 1)) { s with heap := (s.heap.push PySem.W.emptyDict).push (PySem.W.instObj C s.heap.objs.size) } :=
    ⟨V.ref (s.heap.objs.size + 1), _, I2, rfl, h _ _ (I.hok.fresh (Nat.le_succ _)) (I.hok.fresh (Nat.le_refl _)) (Nat.ne_of_lt (Nat.lt_succ_self _))⟩
  have X0 := I.kIn
  have e2 : ((s.heap.push PySem.W.emptyDict).push (PySem.W.instObj C s.heap.objs.size)).get? (s.heap.objs.size + 1) = some (PySem.W.instObj C s.heap.objs.size) := by
    have := Heap.get?_push_size (s.heap.push PySem.W.emptyDict) (o := PySem.W.instObj C s.heap.objs.size) rfl
    rwa [Heap.size_push] at this
  have Y := makes_of (M := model X.prog X.w) X0 M.makes
  have t1 : Looks (model X.prog X.w) ((s.heap.push emptyDict).push (instObj C s.heap.objs.size)) (typeOf (.ref (s.heap.objs.size + 1))) (.ref C) := (Looks.ld e2).andThen .now
  have t2 : Looks (model X.prog X.w) ((s.heap.push emptyDict).push (instObj C s.heap.objs.size)) (isInstance (.ref (s.heap.objs.size + 1)) (.type "object")) true := t1.andThen (Y.top.keeps fun b o e => Heap.get?_push_of_some _ (Heap.get?_push_of_some _ e))
  refine wpAny_call (make_map0 X0 M.makes M.init (fun self => Looks.of_pure (oi_bind self)) ?_)
  refine codeAny_call_builtin oi_plain entry_oi (@check_slot (model X.prog X.w) _ _ _ "object.__init__" "object" "__init__" (.ref (s.heap.objs.size + 1)) [] [] _ oi_kind oi_split t2 (oi_args (.ref (s.heap.objs.size + 1))) ?_)
  rw [oi_run]
  exact wpAny_pure (And.intro rfl z)
end
inductive Kd | let_ | rk | take | put | iff | eith | tryy | throw | wait
deriving DecidableEq
def cOf (d : Ad) : Kd → Addr
  | .let_ => d.cLet | .rk => d.cReckon | .take => d.cTake | .put => d.cPut | .iff => d.cIf | .eith => d.cEither | .tryy => d.cTry | .throw => d.cThrow | .wait => d.cWait
def atK : Kd → List Str
  | .let_ => ["slot", "number"] | .rk => ["word", "slot", "one", "other"] | .take => ["slot", "place"] | .put => ["place", "slot"] | .iff => ["slot", "parts", "others"] | .eith => ["parts", "others"] | .tryy => ["parts", "name", "slot", "others"] | .throw => ["name", "slot"] | .wait => []
structure TParts (d : Ad) : Prop where
  cl : ∀ k, Cls d.K (cOf d k)
  cc : ∀ k, PySem.W.findIn d.K (.ref (cOf d k)) "__class__" = some (some (.builtin "object.__class__"))
  mo : ∀ k, PySem.W.mroIn d.K (cOf d k) (.type "object") = some true
  gs : PySem.W.specialIn d.K (.builtin "object.__class__") "__get__" = some (some (.builtin "getset_descriptor.__get__"))
  tk : PySem.W.takesIn d.K (.builtin "object.__class__") = some true
  kit : ∀ k j, j ≠ .wait → PySem.W.kitOne d.K (.ref (cOf d k)) (.ref (cOf d j)) = some (decide (k = j))
  na : ∀ k n, n ∈ atK k → NoAttr d.K (cOf d k) n
section
variable {d : Ad} {H : Hp} {Q : VK} {a dx : Addr} {fs : List (Str × V)}
theorem ty_part (T : TParts d) {k : Kd} (h : H a = some (.ins (cOf d k) dx fs)) : TyX d.K H (.ref a) (.ref (cOf d k)) := .base (.ins h (T.cl k) (T.cc k) T.gs T.tk (T.mo k))
theorem w_isiO (T : TParts d) {k j : Kd} {b : Bool} (hj : j ≠ .wait) (h : H a = some (.ins (cOf d k) dx fs)) (e : decide (k = j) = b) (q : Q (.bl b) H) : rIsi d.K [.ref a, .ref (cOf d j)] H Q :=
  w_isi (.own _) (ty_part T h) (by rw [T.kit k j hj, e]) q
end
inductive Pt
  | let_ (s : Str) (n : Int) | rk (w s o t : Str) | take (s p : Str) | put (p s : Str) | iff (s : Str) (ps os : List Pt) | eith (ps os : List Pt) | tryy (ps : List Pt) (n s : Str) (os : List Pt) | throw (n s : Str) | wait

abbrev nLet : List Str := ["slot", "number"]
abbrev nReckon : List Str := ["word", "slot", "one", "other"]
abbrev nTake : List Str := ["slot", "place"]
abbrev nPut : List Str := ["place", "slot"]
abbrev nIf : List Str := ["slot", "parts", "others"]
abbrev nEither : List Str := ["parts", "others"]
abbrev nTry : List Str := ["parts", "name", "slot", "others"]
abbrev nThrow : List Str := ["name", "slot"]
abbrev nWait : List Str := []
mutual
def pD (d : Ad) : Pt → D
  | .let_ s n => .obj d.cLet nLet [.str s, .int n]
  | .rk w s o t => .obj d.cReckon nReckon [.str w, .str s, .str o, .str t]
  | .take s p => .obj d.cTake nTake [.str s, .str p]
  | .put p s => .obj d.cPut nPut [.str p, .str s]
  | .iff s ps os => .obj d.cIf nIf [.str s, .lst (psD d ps), .lst (psD d os)]
  | .eith ps os => .obj d.cEither nEither [.lst (psD d ps), .lst (psD d os)]
  | .tryy ps n s os => .obj d.cTry nTry [.lst (psD d ps), .str n, .str s, .lst (psD d os)]
  | .throw n s => .obj d.cThrow nThrow [.str n, .str s]
  | .wait => .obj d.cWait nWait []
def psD (d : Ad) : List Pt → List D
  | [] => []
  | p :: r => pD d p :: psD d r
end
theorem psD_map (d : Ad) : ∀ ps : List Pt, psD d ps = ps.map (pD d)
  | [] => by rw [psD]; rfl
  | p :: r => by rw [psD, psD_map d r]; rfl
section
variable {d : Ad} {e : Env} {W : Wd} {Q : KD} {ns : List Str} {ds : List D}
theorem d_isiO (T : TParts d) {k j : Kd} {b : Bool} (hj : j ≠ .wait) (h : decide (k = j) = b) (q : Q (.raw (.bl b)) W) : RC d.K (rIsi d.K) [.obj (cOf d k) ns ds, .raw (.ref (cOf d j))] W Q := fun B H vs kk s r hk => by
  cases r with
  | cons r1 r2 =>
    cases r2 with
    | cons r2 r3 =>
      cases r2; cases r3
      cases r1 with
      | obj g hl hs => exact w_isiO T hj (s.ex _ _ g) h (hk _ B H _ W (Evl.Ex.refl _) s (.raw _) q)
theorem we_makeO {C : Addr} (q : ∀ x, W x = none → Q (.raw (.ref x)) (wset W x (.ins C []))) : WE d.K (tMakeO C) e W Q := fun B σ H k s r hk => fun x dx hx hdx hne => by
  have hdx2 : (upd H dx (.own x)) x = none := by rw [upd_ne (Ne.symm hne)]; exact hx
  have s2 : Sta d.K B W (upd H dx (.own x)) := s.junk hdx
  exact hk _ B _ _ _ (Evl.Ex.refl _) (s2.new hdx2 (.ins .nil)) (.raw _) (q x (s.nnone hx))
end
def p_Let_init (d : Ad) : PF := fun ds W Q => ∃ (x : Addr) (s : Str) (n : Int), ds = [.ptr x, .str s, .int n] ∧ W x = some (.ins d.cLet []) ∧ Q .non (wset W x (.ins d.cLet [("slot", .str s), ("number", .int n)]))
def p_Reckon_init (d : Ad) : PF := fun ds W Q => ∃ (x : Addr) (w s o t : Str), ds = [.ptr x, .str w, .str s, .str o, .str t] ∧ W x = some (.ins d.cReckon []) ∧ Q .non (wset W x (.ins d.cReckon [("word", .str w), ("slot", .str s), ("one", .str o), ("other", .str t)]))
def p_Take_init (d : Ad) : PF := fun ds W Q => ∃ (x : Addr) (s t : Str), ds = [.ptr x, .str s, .str t] ∧ W x = some (.ins d.cTake []) ∧ Q .non (wset W x (.ins d.cTake [("slot", .str s), ("place", .str t)]))
def p_Put_init (d : Ad) : PF := fun ds W Q => ∃ (x : Addr) (s t : Str), ds = [.ptr x, .str s, .str t] ∧ W x = some (.ins d.cPut []) ∧ Q .non (wset W x (.ins d.cPut [("place", .str s), ("slot", .str t)]))
def p_Throw_init (d : Ad) : PF := fun ds W Q => ∃ (x : Addr) (s t : Str), ds = [.ptr x, .str s, .str t] ∧ W x = some (.ins d.cThrow []) ∧ Q .non (wset W x (.ins d.cThrow [("name", .str s), ("slot", .str t)]))
def p_If_init (d : Ad) : PF := fun ds W Q => ∃ (x : Addr) (s : Str) (l m : D) (ls ms : List D), ds = [.ptr x, .str s, l, m] ∧ W x = some (.ins d.cIf []) ∧ SeqD (wer W x) l ls ∧ SeqD (wer W x) m ms ∧ (Q .non (wset W x (.ins d.cIf [("slot", .str s), ("parts", .lst ls), ("others", .lst ms)])) ∨ ∀ u v, W u = none → W v = none → u ≠ v → Q .non (wset (wset (wset W u (.lst ls)) v (.lst ms)) x (.ins d.cIf [("slot", .str s), ("parts", .ptr u), ("others", .ptr v)])))
def p_Either_init (d : Ad) : PF := fun ds W Q => ∃ (x : Addr) (l m : D) (ls ms : List D), ds = [.ptr x, l, m] ∧ W x = some (.ins d.cEither []) ∧ SeqD (wer W x) l ls ∧ SeqD (wer W x) m ms ∧ (Q .non (wset W x (.ins d.cEither [("parts", .lst ls), ("others", .lst ms)])) ∨ ∀ u v, W u = none → W v = none → u ≠ v → Q .non (wset (wset (wset W u (.lst ls)) v (.lst ms)) x (.ins d.cEither [("parts", .ptr u), ("others", .ptr v)])))
def p_Try_init (d : Ad) : PF := fun ds W Q => ∃ (x : Addr) (n s : Str) (l m : D) (ls ms : List D), ds = [.ptr x, l, .str n, .str s, m] ∧ W x = some (.ins d.cTry []) ∧ SeqD (wer W x) l ls ∧ SeqD (wer W x) m ms ∧ (Q .non (wset W x (.ins d.cTry [("parts", .lst ls), ("name", .str n), ("slot", .str s), ("others", .lst ms)])) ∨ ∀ u v, W u = none → W v = none → u ≠ v → Q .non (wset (wset (wset W u (.lst ls)) v (.lst ms)) x (.ins d.cTry [("parts", .ptr u), ("name", .str n), ("slot", .str s), ("others", .ptr v)])))
abbrev sp_Let_init (d : Ad) : Sp := lift d.K (p_Let_init d)
abbrev sp_Reckon_init (d : Ad) : Sp := lift d.K (p_Reckon_init d)
abbrev sp_Take_init (d : Ad) : Sp := lift d.K (p_Take_init d)
abbrev sp_Put_init (d : Ad) : Sp := lift d.K (p_Put_init d)
abbrev sp_Throw_init (d : Ad) : Sp := lift d.K (p_Throw_init d)
abbrev sp_If_init (d : Ad) : Sp := lift d.K (p_If_init d)
abbrev sp_Either_init (d : Ad) : Sp := lift d.K (p_Either_init d)
abbrev sp_Try_init (d : Ad) : Sp := lift d.K (p_Try_init d)
abbrev N_Let_init : List Str := ["self", "slot", "number"]
def t_Let_init (d : Ad) : TS :=
  (tSeq (sFld d.K (tVar 0) (tVar 1) "slot")
  (sFld d.K (tVar 0) (tVar 2) "number"))
abbrev N_Reckon_init : List Str := ["self", "word", "slot", "one", "other"]
def t_Reckon_init (d : Ad) : TS :=
  (tSeq (sFld d.K (tVar 0) (tVar 1) "word")
  (tSeq (sFld d.K (tVar 0) (tVar 2) "slot")
  (tSeq (sFld d.K (tVar 0) (tVar 3) "one")
  (sFld d.K (tVar 0) (tVar 4) "other"))))
abbrev N_Take_init : List Str := ["self", "slot", "place"]
def t_Take_init (d : Ad) : TS :=
  (tSeq (sFld d.K (tVar 0) (tVar 1) "slot")
  (sFld d.K (tVar 0) (tVar 2) "place"))
abbrev N_Put_init : List Str := ["self", "place", "slot"]
def t_Put_init (d : Ad) : TS :=
  (tSeq (sFld d.K (tVar 0) (tVar 1) "place")
  (sFld d.K (tVar 0) (tVar 2) "slot"))
abbrev N_If_init : List Str := ["self", "slot", "parts", "others"]
def t_If_init (d : Ad) : TS :=
  (tSeq (sFld d.K (tVar 0) (tVar 1) "slot")
  (tSeq (sFld d.K (tVar 0) (tCB (rListOf d.K) (tCons (tVar 2) tNil)) "parts")
  (sFld d.K (tVar 0) (tCB (rListOf d.K) (tCons (tVar 3) tNil)) "others")))
abbrev N_Either_init : List Str := ["self", "parts", "others"]
def t_Either_init (d : Ad) : TS :=
  (tSeq (sFld d.K (tVar 0) (tCB (rListOf d.K) (tCons (tVar 1) tNil)) "parts")
  (sFld d.K (tVar 0) (tCB (rListOf d.K) (tCons (tVar 2) tNil)) "others"))
abbrev N_Try_init : List Str := ["self", "parts", "name", "slot", "others"]
def t_Try_init (d : Ad) : TS :=
  (tSeq (sFld d.K (tVar 0) (tCB (rListOf d.K) (tCons (tVar 1) tNil)) "parts")
  (tSeq (sFld d.K (tVar 0) (tVar 2) "name")
  (tSeq (sFld d.K (tVar 0) (tVar 3) "slot")
  (sFld d.K (tVar 0) (tCB (rListOf d.K) (tCons (tVar 4) tNil)) "others"))))
abbrev N_Throw_init : List Str := ["self", "name", "slot"]
def t_Throw_init (d : Ad) : TS :=
  (tSeq (sFld d.K (tVar 0) (tVar 1) "name")
  (sFld d.K (tVar 0) (tVar 2) "slot"))
local macro_rules | `(tactic| walk_at "callm") => `(tactic| fail)
section
variable {d : Ad} {vs : List V} {H : Hp} {Q : VK} {E : XK} {W : Wd} {x : Addr} {c c' : Cell} {l : D} {ls : List D}
theorem sd_wx (h : SeqD (wer W x) l ls) : SeqD (wset W x c) l ls := h.er fun a u q => by
  by_cases z : a = x
  · subst z; rw [we_same] at q; cases q
  · rw [we_ne z] at q; rw [ws_ne z]; exact q
theorem ws_kept {W : Wd} {x u v : Addr} {c1 c2 cu cv : Cell} {c0 : Cell} (hx : W x = some c0) (hu : wset W x c1 u = none) (hv : wset (wset (wset W x c1) u cu) x c2 v = none) : W u = none ∧ W v = none ∧ u ≠ v ∧ ∀ c, wset (wset (wset (wset (wset W x c1) u cu) x c2) v cv) x c = wset (wset (wset W u cu) v cv) x c := by
  have h1 := ws_non hu
  have h2 := ws_non hv
  have h3 := ws_non h2
  have nux : u ≠ x := fun z => by rw [z, ws_same] at hu; cases hu
  have nvx : v ≠ x := fun z => by rw [z, ws_same] at hv; cases hv
  have nuv : u ≠ v := fun z => by rw [← z, ws_same] at h2; cases h2
  refine ⟨h1, ws_non h3, nuv, fun c => ?_⟩
  funext b
  by_cases zx : b = x
  · rw [zx, ws_same, ws_same]
  · by_cases zv : b = v
    · rw [ws_ne zx, zv, ws_same, ws_ne nvx, ws_same]
    · by_cases zu : b = u
      · rw [ws_ne zx, ws_ne zv, ws_ne zx, zu, ws_same, ws_ne nux, ws_ne nuv, ws_same]
      · rw [ws_ne zx, ws_ne zv, ws_ne zx, ws_ne zu, ws_ne zx, ws_ne zx, ws_ne zv, ws_ne zu]
theorem ws_kept0 {W : Wd} {x u v : Addr} {c2 cu cv : Cell} {c0 : Cell} (hx : W x = some c0) (hu : W u = none) (hv : wset (wset W u cu) x c2 v = none) : W u = none ∧ W v = none ∧ u ≠ v ∧ ∀ c, wset (wset (wset (wset W u cu) x c2) v cv) x c = wset (wset (wset W u cu) v cv) x c := by
  have h2 := ws_non hv
  have h3 := ws_non h2
  have nux : u ≠ x := fun z => by rw [z, hx] at hu; cases hu
  have nvx : v ≠ x := fun z => by rw [z, ws_same] at hv; cases hv
  have nuv : u ≠ v := fun z => by rw [← z, ws_same] at h2; cases h2
  refine ⟨hu, h3, nuv, fun c => ?_⟩
  funext b
  by_cases zx : b = x
  · rw [zx, ws_same, ws_same]
  · by_cases zv : b = v
    · rw [ws_ne zx, zv, ws_same, ws_ne nvx, ws_same]
    · rw [ws_ne zx, ws_ne zv, ws_ne zx, ws_ne zx, ws_ne zv]
theorem sd_wk {x u : Addr} {c cu : Cell} (h : SeqD (wer W x) l ls) (hu : W u = none) : SeqD (wset (wset W u cu) x c) l ls := h.er fun a b q => by
  by_cases z : a = x
  · subst z; rw [we_same] at q; cases q
  · rw [we_ne z] at q; rw [ws_ne z, ws_ne (ne_w q hu)]; exact q
theorem sd_wk1 {x u : Addr} {c c1 cu : Cell} (h : SeqD (wer W x) l ls) (hu : wset W x c1 u = none) : SeqD (wset (wset (wset W x c1) u cu) x c) l ls := h.er fun a b q => by
  by_cases z : a = x
  · subst z; rw [we_same] at q; cases q
  · rw [we_ne z] at q; rw [ws_ne z, ws_ne (ne_w q (ws_non hu)), ws_ne z]; exact q
theorem pure_Let_init (T : TParts d) (h : sp_Let_init d vs H Q E) : t_Let_init d { nx := fun _ H' => Q .non H', rt := Q } (start N_Let_init vs) H := by
  refine lift_pure h fun ds W Q hp => ?_
  obtain ⟨x, s, n, rfl, hx, k⟩ := hp
  have c : Cls d.K d.cLet := T.cl .let_
  have n0 : NoAttr d.K d.cLet "slot" := T.na .let_ _ (by simp [atK])
  have n1 : NoAttr d.K d.cLet "number" := T.na .let_ _ (by simp [atK])
  show WS d.K (t_Let_init d) [some (.raw (.ref x)), some (.raw (.str s)), some (.raw (.int n))] W _
  unfold t_Let_init
  walk_at "mgo"
  exact k
theorem pure_Reckon_init (T : TParts d) (h : sp_Reckon_init d vs H Q E) : t_Reckon_init d { nx := fun _ H' => Q .non H', rt := Q } (start N_Reckon_init vs) H := by
  refine lift_pure h fun ds W Q hp => ?_
  obtain ⟨x, w, s, o, t, rfl, hx, k⟩ := hp
  have c : Cls d.K d.cReckon := T.cl .rk
  have n0 : NoAttr d.K d.cReckon "word" := T.na .rk _ (by simp [atK])
  have n1 : NoAttr d.K d.cReckon "slot" := T.na .rk _ (by simp [atK])
  have n2 : NoAttr d.K d.cReckon "one" := T.na .rk _ (by simp [atK])
  have n3 : NoAttr d.K d.cReckon "other" := T.na .rk _ (by simp [atK])
  show WS d.K (t_Reckon_init d) [some (.raw (.ref x)), some (.raw (.str w)), some (.raw (.str s)), some (.raw (.str o)), some (.raw (.str t))] W _
  unfold t_Reckon_init
  walk_at "mgo"
  exact k
theorem pure_Take_init (T : TParts d) (h : sp_Take_init d vs H Q E) : t_Take_init d { nx := fun _ H' => Q .non H', rt := Q } (start N_Take_init vs) H := by
  refine lift_pure h fun ds W Q hp => ?_
  obtain ⟨x, s, t, rfl, hx, k⟩ := hp
  have c : Cls d.K d.cTake := T.cl .take
  have n0 : NoAttr d.K d.cTake "slot" := T.na .take _ (by simp [atK])
  have n1 : NoAttr d.K d.cTake "place" := T.na .take _ (by simp [atK])
  show WS d.K (t_Take_init d) [some (.raw (.ref x)), some (.raw (.str s)), some (.raw (.str t))] W _
  unfold t_Take_init
  walk_at "mgo"
  exact k
theorem pure_Put_init (T : TParts d) (h : sp_Put_init d vs H Q E) : t_Put_init d { nx := fun _ H' => Q .non H', rt := Q } (start N_Put_init vs) H := by
  refine lift_pure h fun ds W Q hp => ?_
  obtain ⟨x, s, t, rfl, hx, k⟩ := hp
  have c : Cls d.K d.cPut := T.cl .put
  have n0 : NoAttr d.K d.cPut "place" := T.na .put _ (by simp [atK])
  have n1 : NoAttr d.K d.cPut "slot" := T.na .put _ (by simp [atK])
  show WS d.K (t_Put_init d) [some (.raw (.ref x)), some (.raw (.str s)), some (.raw (.str t))] W _
  unfold t_Put_init
  walk_at "mgo"
  exact k
theorem pure_Throw_init (T : TParts d) (h : sp_Throw_init d vs H Q E) : t_Throw_init d { nx := fun _ H' => Q .non H', rt := Q } (start N_Throw_init vs) H := by
  refine lift_pure h fun ds W Q hp => ?_
  obtain ⟨x, s, t, rfl, hx, k⟩ := hp
  have c : Cls d.K d.cThrow := T.cl .throw
  have n0 : NoAttr d.K d.cThrow "name" := T.na .throw _ (by simp [atK])
  have n1 : NoAttr d.K d.cThrow "slot" := T.na .throw _ (by simp [atK])
  show WS d.K (t_Throw_init d) [some (.raw (.ref x)), some (.raw (.str s)), some (.raw (.str t))] W _
  unfold t_Throw_init
  walk_at "mgo"
  exact k
theorem pure_If_init (T : TParts d) (h : sp_If_init d vs H Q E) : t_If_init d { nx := fun _ H' => Q .non H', rt := Q } (start N_If_init vs) H := by
  refine lift_pure h fun ds W Q hp => ?_
  obtain ⟨x, s, l, m, ls, ms, rfl, hx, hl, hm, k⟩ := hp
  have c : Cls d.K d.cIf := T.cl .iff
  have n0 : NoAttr d.K d.cIf "slot" := T.na .iff _ (by simp [atK])
  have n1 : NoAttr d.K d.cIf "parts" := T.na .iff _ (by simp [atK])
  have n2 : NoAttr d.K d.cIf "others" := T.na .iff _ (by simp [atK])
  show WS d.K (t_If_init d) [some (.raw (.ref x)), some (.raw (.str s)), some l, some m] W _
  unfold t_If_init
  walk_at "mgo"
  rcases k with k | k
  · refine d_listF (sd_wx hl) ?_
    walk_at "dat"
    refine d_listF (sd_wx hm) ?_
    walk_at "dat"
    exact k
  · refine d_listF (sd_wx hl) ?_
    intro u hu
    refine fz_id ?_
    walk_at "mgo"
    refine d_listF (sd_wk1 hm hu) ?_
    intro v hv
    refine fz_id ?_
    walk_at "mgo"
    obtain ⟨e1, e2, e3, e4⟩ := ws_kept hx hu hv
    have k := k u v e1 e2 e3
    rw [← e4] at k
    exact k
theorem pure_Either_init (T : TParts d) (h : sp_Either_init d vs H Q E) : t_Either_init d { nx := fun _ H' => Q .non H', rt := Q } (start N_Either_init vs) H := by
  refine lift_pure h fun ds W Q hp => ?_
  obtain ⟨x, l, m, ls, ms, rfl, hx, hl, hm, k⟩ := hp
  have c : Cls d.K d.cEither := T.cl .eith
  have n1 : NoAttr d.K d.cEither "parts" := T.na .eith _ (by simp [atK])
  have n2 : NoAttr d.K d.cEither "others" := T.na .eith _ (by simp [atK])
  show WS d.K (t_Either_init d) [some (.raw (.ref x)), some l, some m] W _
  unfold t_Either_init
  walk_at "mgo"
  rcases k with k | k
  · refine d_listF (hl.er Sub.wer) ?_
    walk_at "dat"
    refine d_listF (sd_wx hm) ?_
    walk_at "dat"
    exact k
  · refine d_listF (hl.er Sub.wer) ?_
    intro u hu
    refine fz_id ?_
    walk_at "mgo"
    try simp only [ws_ws]
    refine d_listF (sd_wk hm hu) ?_
    intro v hv
    refine fz_id ?_
    walk_at "mgo"
    obtain ⟨e1, e2, e3, e4⟩ := ws_kept0 hx hu hv
    have k := k u v e1 e2 e3
    rw [← e4] at k
    exact k
theorem pure_Try_init (T : TParts d) (h : sp_Try_init d vs H Q E) : t_Try_init d { nx := fun _ H' => Q .non H', rt := Q } (start N_Try_init vs) H := by
  refine lift_pure h fun ds W Q hp => ?_
  obtain ⟨x, n, s, l, m, ls, ms, rfl, hx, hl, hm, k⟩ := hp
  have c : Cls d.K d.cTry := T.cl .tryy
  have n0 : NoAttr d.K d.cTry "slot" := T.na .tryy _ (by simp [atK])
  have n1 : NoAttr d.K d.cTry "parts" := T.na .tryy _ (by simp [atK])
  have n2 : NoAttr d.K d.cTry "others" := T.na .tryy _ (by simp [atK])
  have n3 : NoAttr d.K d.cTry "name" := T.na .tryy _ (by simp [atK])
  show WS d.K (t_Try_init d) [some (.raw (.ref x)), some l, some (.raw (.str n)), some (.raw (.str s)), some m] W _
  unfold t_Try_init
  walk_at "mgo"
  rcases k with k | k
  · refine d_listF (hl.er Sub.wer) ?_
    walk_at "dat"
    refine d_listF (sd_wx hm) ?_
    walk_at "dat"
    exact k
  · refine d_listF (hl.er Sub.wer) ?_
    intro u hu
    refine fz_id ?_
    walk_at "mgo"
    try simp only [ws_ws]
    refine d_listF (sd_wk hm hu) ?_
    intro v hv
    refine fz_id ?_
    walk_at "mgo"
    obtain ⟨e1, e2, e3, e4⟩ := ws_kept0 hx hu hv
    have k := k u v e1 e2 e3
    rw [← e4] at k
    exact k
end
section
variable {d : Ad} {e : Env} {W : Wd} {Q : KD} {tl : TA}
theorem mk_end {C : Addr} {fs : List (Str × D)} {x : Addr} (h : W x = none) (q : Q (.obj C (fs.map (·.1)) (fs.map (·.2))) W) {c : Cell} : D.non = D.non ∧ FzQ Q (.raw (.ref x)) (wset (wset W x c) x (.ins C fs)) := ⟨rfl, by rw [ws_ws]; exact fz_obj h q⟩
theorem sd_new {x : Addr} {l : D} {ls : List D} {c : Cell} (h : SeqD W l ls) (hx : W x = none) : SeqD (wer (wset W x c) x) l ls := by rw [we_ws hx]; exact h
theorem mk_Let (q : WA d.K tl e W fun ds W1 => ∃ s n, ds = [D.raw (.str s), D.raw (.int n)] ∧ Q (pD d (.let_ s n)) W1) : WE d.K (tMake d.cLet (sp_Let_init d) [] E0 tl) e W Q := we_fz (we_make fun B σ H k s r hk => q B σ H k s r fun vs B1 H1 ds W1 x1 s1 r1 q1 => hk vs B1 H1 ds W1 x1 s1 r1 (by
  obtain ⟨s, n, rfl, q1⟩ := q1
  exact fun x hx => ⟨x, s, n, rfl, ws_same, mk_end hx (by rw [pD] at q1; exact q1)⟩))
theorem mk_Reckon (q : WA d.K tl e W fun ds W1 => ∃ w s o t, ds = [D.raw (.str w), D.raw (.str s), D.raw (.str o), D.raw (.str t)] ∧ Q (pD d (.rk w s o t)) W1) : WE d.K (tMake d.cReckon (sp_Reckon_init d) [] E0 tl) e W Q := we_fz (we_make fun B σ H k s r hk => q B σ H k s r fun vs B1 H1 ds W1 x1 s1 r1 q1 => hk vs B1 H1 ds W1 x1 s1 r1 (by
  obtain ⟨w, s, o, t, rfl, q1⟩ := q1
  exact fun x hx => ⟨x, w, s, o, t, rfl, ws_same, mk_end hx (by rw [pD] at q1; exact q1)⟩))
theorem mk_Take (q : WA d.K tl e W fun ds W1 => ∃ s t, ds = [D.raw (.str s), D.raw (.str t)] ∧ Q (pD d (.take s t)) W1) : WE d.K (tMake d.cTake (sp_Take_init d) [] E0 tl) e W Q := we_fz (we_make fun B σ H k s r hk => q B σ H k s r fun vs B1 H1 ds W1 x1 s1 r1 q1 => hk vs B1 H1 ds W1 x1 s1 r1 (by
  obtain ⟨s, t, rfl, q1⟩ := q1
  exact fun x hx => ⟨x, s, t, rfl, ws_same, mk_end hx (by rw [pD] at q1; exact q1)⟩))
theorem mk_Put (q : WA d.K tl e W fun ds W1 => ∃ s t, ds = [D.raw (.str s), D.raw (.str t)] ∧ Q (pD d (.put s t)) W1) : WE d.K (tMake d.cPut (sp_Put_init d) [] E0 tl) e W Q := we_fz (we_make fun B σ H k s r hk => q B σ H k s r fun vs B1 H1 ds W1 x1 s1 r1 q1 => hk vs B1 H1 ds W1 x1 s1 r1 (by
  obtain ⟨s, t, rfl, q1⟩ := q1
  exact fun x hx => ⟨x, s, t, rfl, ws_same, mk_end hx (by rw [pD] at q1; exact q1)⟩))
theorem mk_Throw (q : WA d.K tl e W fun ds W1 => ∃ s t, ds = [D.raw (.str s), D.raw (.str t)] ∧ Q (pD d (.throw s t)) W1) : WE d.K (tMake d.cThrow (sp_Throw_init d) [] E0 tl) e W Q := we_fz (we_make fun B σ H k s r hk => q B σ H k s r fun vs B1 H1 ds W1 x1 s1 r1 q1 => hk vs B1 H1 ds W1 x1 s1 r1 (by
  obtain ⟨s, t, rfl, q1⟩ := q1
  exact fun x hx => ⟨x, s, t, rfl, ws_same, mk_end hx (by rw [pD] at q1; exact q1)⟩))
theorem mk_If (q : WA d.K tl e W fun ds W1 => ∃ s l m ps os, ds = [D.raw (.str s), l, m] ∧ SeqD W1 l (psD d ps) ∧ SeqD W1 m (psD d os) ∧ Q (pD d (.iff s ps os)) W1) : WE d.K (tMake d.cIf (sp_If_init d) [] E0 tl) e W Q := we_fz (we_make fun B σ H k s r hk => q B σ H k s r fun vs B1 H1 ds W1 x1 s1 r1 q1 => hk vs B1 H1 ds W1 x1 s1 r1 (by
  obtain ⟨s, l, m, ps, os, rfl, h1, h2, q1⟩ := q1
  exact fun x hx => ⟨x, s, l, m, _, _, rfl, ws_same, sd_new h1 hx, sd_new h2 hx, .inl (mk_end hx (by rw [pD] at q1; exact q1))⟩))
theorem mk_Either (q : WA d.K tl e W fun ds W1 => ∃ l m ps os, ds = [l, m] ∧ SeqD W1 l (psD d ps) ∧ SeqD W1 m (psD d os) ∧ Q (pD d (.eith ps os)) W1) : WE d.K (tMake d.cEither (sp_Either_init d) [] E0 tl) e W Q := we_fz (we_make fun B σ H k s r hk => q B σ H k s r fun vs B1 H1 ds W1 x1 s1 r1 q1 => hk vs B1 H1 ds W1 x1 s1 r1 (by
  obtain ⟨l, m, ps, os, rfl, h1, h2, q1⟩ := q1
  exact fun x hx => ⟨x, l, m, _, _, rfl, ws_same, sd_new h1 hx, sd_new h2 hx, .inl (mk_end hx (by rw [pD] at q1; exact q1))⟩))
theorem mk_Try (q : WA d.K tl e W fun ds W1 => ∃ l n s m ps os, ds = [l, D.raw (.str n), D.raw (.str s), m] ∧ SeqD W1 l (psD d ps) ∧ SeqD W1 m (psD d os) ∧ Q (pD d (.tryy ps n s os)) W1) : WE d.K (tMake d.cTry (sp_Try_init d) [] E0 tl) e W Q := we_fz (we_make fun B σ H k s r hk => q B σ H k s r fun vs B1 H1 ds W1 x1 s1 r1 q1 => hk vs B1 H1 ds W1 x1 s1 r1 (by
  obtain ⟨l, n, s, m, ps, os, rfl, h1, h2, q1⟩ := q1
  exact fun x hx => ⟨x, n, s, l, m, _, _, rfl, ws_same, sd_new h1 hx, sd_new h2 hx, .inl (mk_end hx (by rw [pD] at q1; exact q1))⟩))
theorem mk_Wait (q : Q (pD d .wait) W) : WE d.K (tMakeO d.cWait) e W Q := we_fz (we_makeO fun x hx => fz_obj hx (by rw [pD] at q; exact q))
theorem ex_si {a : Str} {b : Int} {P : Str → Int → Prop} (q : P a b) : ∃ s n, [D.raw (.str a), D.raw (.int b)] = [D.raw (.str s), D.raw (.int n)] ∧ P s n := ⟨a, b, rfl, q⟩
theorem ex_ss {a b : Str} {P : Str → Str → Prop} (q : P a b) : ∃ s n, [D.raw (.str a), D.raw (.str b)] = [D.raw (.str s), D.raw (.str n)] ∧ P s n := ⟨a, b, rfl, q⟩
theorem ex_ssss {a b c e : Str} {P : Str → Str → Str → Str → Prop} (q : P a b c e) : ∃ s n m t, [D.raw (.str a), D.raw (.str b), D.raw (.str c), D.raw (.str e)] = [D.raw (.str s), D.raw (.str n), D.raw (.str m), D.raw (.str t)] ∧ P s n m t := ⟨a, b, c, e, rfl, q⟩
end
end
set_option Elab.async false
set_option linter.all false
set_option maxRecDepth 100000
set_option maxHeartbeats 1000000
set_option autoImplicit false
local macro_rules | `(tactic| walk_at "mkp") => `(tactic| first | with_reducible refine' mk_Let ?_ | with_reducible refine' mk_Reckon ?_ | with_reducible refine' mk_Take ?_ | with_reducible refine' mk_Put ?_ | with_reducible refine' mk_If ?_ | with_reducible refine' mk_Either ?_ | with_reducible refine' mk_Try ?_ | with_reducible refine' mk_Throw ?_ | with_reducible refine' mk_Wait ?_ | with_reducible refine' ex_si ?_ | with_reducible refine' ex_ss ?_ | with_reducible refine' ex_ssss ?_)
section
open PySem L2
local macro_rules | `(tactic| walk_at "set") => `(tactic| ((try simp only [List.set_cons_succ, List.set_cons_zero]); rfl))
local macro_rules | `(tactic| walk_at "sc") => `(tactic| first | assumption | decide | omega | (unfold CMul; omega) | (unfold CDiv; omega) | (unfold CPow; decide) | (unfold CDiv; decide))
local macro_rules | `(tactic| walk_at "go") => `(tactic| (repeat (first | walk_at "step" | walk_at "callx")))
local macro_rules | `(tactic| walk_at "goN") => `(tactic| (repeat (first | walk_at "step" | walk_at "callx" | ((with_reducible show ∀ p, _ = none → _); walk_at "new"))))
local macro_rules | `(tactic| walk_at "len") => `(tactic| first
  | (obtain ⟨rfl, _⟩ := h; rfl) | (obtain ⟨_, rfl, _⟩ := h; rfl) | (obtain ⟨_, _, rfl, _⟩ := h; rfl) | (obtain ⟨_, _, _, rfl, _⟩ := h; rfl) | (obtain ⟨_, _, _, _, rfl, _⟩ := h; rfl)
  | (obtain ⟨_, _, _, _, _, rfl, _⟩ := h; rfl) | (obtain ⟨_, _, _, _, _, _, rfl, _⟩ := h; rfl) | (obtain ⟨_, _, _, _, _, _, _, rfl, _⟩ := h; rfl) | (obtain ⟨_, _, _, _, _, _, _, _, rfl, _⟩ := h; rfl)
  | (obtain ⟨_, _, _, _, _, _, _, _, _, rfl, _⟩ := h; rfl) | (obtain ⟨_, _, _, _, _, _, _, _, _, _, rfl, _⟩ := h; rfl))
local macro_rules | `(tactic| walk_at "dd") => `(tactic| first | with_reducible assumption | ((with_reducible refine' DctD.own ?h); (case h => walk_at "wk")) | ((with_reducible refine' DctD.lock ?h); (case h => walk_at "wk")))
local macro_rules | `(tactic| walk_at "mat") => `(tactic| first | ((with_reducible refine' MAt.ins ?h ?l); (case h => walk_at "wk"); (case l => rfl)) | ((with_reducible refine' log_mat ?h ?l ?l2); (case h => walk_at "wk"); (case l => decide +kernel); (case l2 => decide +kernel)))
local macro_rules | `(tactic| walk_at "isim") => `(tactic| first | ((with_reducible refine' m_isi_let_ ?t ?k ?h ?e ?_); (case t => assumption); (case e => assumption); (case h => rfl)) | ((with_reducible refine' m_isi_rk ?t ?k ?h ?e ?_); (case t => assumption); (case e => assumption); (case h => rfl)) | ((with_reducible refine' m_isi_take ?t ?k ?h ?e ?_); (case t => assumption); (case e => assumption); (case h => rfl)) | ((with_reducible refine' m_isi_put ?t ?k ?h ?e ?_); (case t => assumption); (case e => assumption); (case h => rfl)) | ((with_reducible refine' m_isi_throw ?t ?k ?h ?e ?_); (case t => assumption); (case e => assumption); (case h => rfl)) | ((with_reducible refine' m_isi_iff ?t ?k ?h ?e ?_); (case t => assumption); (case e => assumption); (case h => rfl)) | ((with_reducible refine' m_isi_eith ?t ?k ?h ?e ?_); (case t => assumption); (case e => assumption); (case h => rfl)) | ((with_reducible refine' m_isi_tryy ?t ?k ?h ?e ?_); (case t => assumption); (case e => assumption); (case h => rfl)))
abbrev Rows := List (List V)
mutual
def lenP : Pt → Nat
  | .iff _ ps os => 2 + lenPs ps + lenPs os
  | .eith ps os => 3 + lenPs ps + lenPs os
  | .tryy ps _ _ os => 3 + lenPs ps + lenPs os
  | .let_ .. | .rk .. | .take .. | .put .. | .throw .. | .wait => 1
def lenPs : List Pt → Nat
  | [] => 0
  | p :: r => lenP p + lenPs r
end
mutual
def ndP : Pt → Nat
  | .iff _ ps os => 3 + max (ndPs ps) (ndPs os)
  | .eith ps os => 3 + max (ndPs ps) (ndPs os)
  | .tryy ps _ _ os => 3 + max (ndPs ps) (ndPs os)
  | .let_ .. | .rk .. | .take .. | .put .. | .throw .. | .wait => 1
def ndPs : List Pt → Nat
  | [] => 0
  | p :: r => max (ndP p) (ndPs r)
end
theorem lenPs_app (ps qs : List Pt) : lenPs (ps ++ qs) = lenPs ps + lenPs qs := by
  induction ps with
  | nil => simp [lenPs]
  | cons p r ih => rw [List.cons_append, lenPs, lenPs, ih]; omega
theorem lenPs_take (ps : List Pt) (i : Nat) : lenPs (ps.take i) ≤ lenPs ps := by
  have h : lenPs (ps.take i ++ ps.drop i) = lenPs (ps.take i) + lenPs (ps.drop i) := lenPs_app _ _
  rw [List.take_append_drop] at h
  omega
theorem lenP_mem {ps : List Pt} {i : Nat} {p : Pt} (h : ps[i]? = some p) : lenPs (ps.take i) + lenP p ≤ lenPs ps := by
  have h1 := lenPs_take ps (i + 1)
  rw [List.take_succ, h, lenPs_app] at h1
  simpa [lenPs] using h1
theorem ndP_mem : ∀ {ps : List Pt} {i : Nat} {p : Pt}, ps[i]? = some p → ndP p ≤ ndPs ps
  | q :: r, 0, p, h => by cases h; rw [ndPs]; exact Nat.le_max_left _ _
  | q :: r, i + 1, p, h => by rw [ndPs]; exact Nat.le_trans (ndP_mem (by simpa using h)) (Nat.le_max_right _ _)
theorem ndP_pos : ∀ p : Pt, 1 ≤ ndP p
  | .iff .. | .eith .. | .tryy .. => by simp only [ndP]; omega
  | .let_ .. | .rk .. | .take .. | .put .. | .throw .. | .wait => by simp [ndP]
abbrev rwD (r : List V) : D := .tup (r.map D.raw)
abbrev rowsL (rs : Rows) : List D := rs.map rwD
section
variable {d : Ad} {vs : List V} {H : Hp} {Q : VK} {E : XK}
end
section
variable {d : Ad} {W : Wd} {Q : KD} {C : Addr} {k : Kd} {b : Bool} {ns : List Str} {ds : List D}
end
local macro_rules | `(tactic| walk_at "callm") => `(tactic| first | ((with_reducible refine' m_isi_let_ ?t ?k ?h ?e ?_); (case t => assumption); (case e => assumption); (case h => rfl)) | ((with_reducible refine' m_isi_rk ?t ?k ?h ?e ?_); (case t => assumption); (case e => assumption); (case h => rfl)) | ((with_reducible refine' m_isi_take ?t ?k ?h ?e ?_); (case t => assumption); (case e => assumption); (case h => rfl)) | ((with_reducible refine' m_isi_put ?t ?k ?h ?e ?_); (case t => assumption); (case e => assumption); (case h => rfl)) | ((with_reducible refine' m_isi_throw ?t ?k ?h ?e ?_); (case t => assumption); (case e => assumption); (case h => rfl)) | ((with_reducible refine' m_isi_iff ?t ?k ?h ?e ?_); (case t => assumption); (case e => assumption); (case h => rfl)) | ((with_reducible refine' m_isi_eith ?t ?k ?h ?e ?_); (case t => assumption); (case e => assumption); (case h => rfl)) | ((with_reducible refine' m_isi_tryy ?t ?k ?h ?e ?_); (case t => assumption); (case e => assumption); (case h => rfl)))
section
variable {d : Ad} {vs : List V} {H : Hp} {Q : VK} {E : XK}
theorem psD_len (ps : List Pt) : (psD d ps).length = ps.length := by rw [psD_map, List.length_map]
theorem psD_get {ps : List Pt} {i : Nat} {x : D} (h : (psD d ps)[i]? = some x) : ∃ p, ps[i]? = some p ∧ x = pD d p := by
  rw [psD_map, List.getElem?_map] at h
  obtain ⟨p, h1, h2⟩ := Option.map_eq_some_iff.mp h
  exact ⟨p, h1, h2.symm⟩
end
end
set_option Elab.async false
set_option linter.all false
set_option maxRecDepth 100000
set_option maxHeartbeats 1000000
set_option autoImplicit false
section
open PySem L2
local macro_rules | `(tactic| walk_at "set") => `(tactic| ((try simp only [List.set_cons_succ, List.set_cons_zero]); rfl))
local macro_rules | `(tactic| walk_at "sc") => `(tactic| first | assumption | decide | omega | (unfold CMul; omega) | (unfold CDiv; omega) | (unfold CPow; decide) | (unfold CDiv; decide))
local macro_rules | `(tactic| walk_at "go") => `(tactic| (repeat (first | walk_at "step" | walk_at "callx")))
local macro_rules | `(tactic| walk_at "goN") => `(tactic| (repeat (first | walk_at "step" | walk_at "callx" | ((with_reducible show ∀ p, _ = none → _); walk_at "new"))))
local macro_rules | `(tactic| walk_at "len") => `(tactic| first
  | (obtain ⟨rfl, _⟩ := h; rfl) | (obtain ⟨_, rfl, _⟩ := h; rfl) | (obtain ⟨_, _, rfl, _⟩ := h; rfl) | (obtain ⟨_, _, _, rfl, _⟩ := h; rfl) | (obtain ⟨_, _, _, _, rfl, _⟩ := h; rfl)
  | (obtain ⟨_, _, _, _, _, rfl, _⟩ := h; rfl) | (obtain ⟨_, _, _, _, _, _, rfl, _⟩ := h; rfl) | (obtain ⟨_, _, _, _, _, _, _, rfl, _⟩ := h; rfl) | (obtain ⟨_, _, _, _, _, _, _, _, rfl, _⟩ := h; rfl)
  | (obtain ⟨_, _, _, _, _, _, _, _, _, rfl, _⟩ := h; rfl) | (obtain ⟨_, _, _, _, _, _, _, _, _, _, rfl, _⟩ := h; rfl))
local macro_rules | `(tactic| walk_at "dd") => `(tactic| first | with_reducible assumption | ((with_reducible refine' DctD.own ?h); (case h => walk_at "wk")) | ((with_reducible refine' DctD.lock ?h); (case h => walk_at "wk")))
local macro_rules | `(tactic| walk_at "mat") => `(tactic| first | ((with_reducible refine' MAt.ins ?h ?l); (case h => walk_at "wk"); (case l => rfl)) | ((with_reducible refine' log_mat ?h ?l ?l2); (case h => walk_at "wk"); (case l => decide +kernel); (case l2 => decide +kernel)))
local macro_rules | `(tactic| walk_at "isim") => `(tactic| first | ((with_reducible refine' m_isi_let_ ?t ?k ?h ?e ?_); (case t => assumption); (case e => assumption); (case h => rfl)) | ((with_reducible refine' m_isi_rk ?t ?k ?h ?e ?_); (case t => assumption); (case e => assumption); (case h => rfl)) | ((with_reducible refine' m_isi_take ?t ?k ?h ?e ?_); (case t => assumption); (case e => assumption); (case h => rfl)) | ((with_reducible refine' m_isi_put ?t ?k ?h ?e ?_); (case t => assumption); (case e => assumption); (case h => rfl)) | ((with_reducible refine' m_isi_throw ?t ?k ?h ?e ?_); (case t => assumption); (case e => assumption); (case h => rfl)) | ((with_reducible refine' m_isi_iff ?t ?k ?h ?e ?_); (case t => assumption); (case e => assumption); (case h => rfl)) | ((with_reducible refine' m_isi_eith ?t ?k ?h ?e ?_); (case t => assumption); (case e => assumption); (case h => rfl)) | ((with_reducible refine' m_isi_tryy ?t ?k ?h ?e ?_); (case t => assumption); (case e => assumption); (case h => rfl)))
local macro_rules | `(tactic| walk_at "callm") => `(tactic| fail)
section
variable {n : Nat} {d : Ad} {vs : List V} {H : Hp} {Q : VK} {E : XK} {W : Wd} {x y : D} {ds : List D}
end
end
set_option Elab.async false
set_option linter.all false
set_option maxRecDepth 100000
set_option maxHeartbeats 1000000
set_option autoImplicit false
section
open PySem L2
def isPlain : Pt → Bool
  | .iff .. | .eith .. | .tryy .. => false
  | _ => true
theorem cutD_map {α β : Type} (f : α → β) (l : List α) (lo hi : Option Int) : cutD (l.map f) lo hi = (cutD l lo hi).map f := by
  unfold cutD
  rw [List.length_map, ← List.map_drop, ← List.map_take]
end
set_option Elab.async false
set_option linter.all false
set_option maxRecDepth 100000
set_option maxHeartbeats 1000000
set_option autoImplicit false
section
open PySem L2
local macro_rules | `(tactic| walk_at "set") => `(tactic| ((try simp only [List.set_cons_succ, List.set_cons_zero]); rfl))
local macro_rules | `(tactic| walk_at "sc") => `(tactic| first | assumption | decide | omega | (unfold CMul; omega) | (unfold CDiv; omega) | (unfold CPow; decide) | (unfold CDiv; decide))
local macro_rules | `(tactic| walk_at "go") => `(tactic| (repeat (first | walk_at "step" | walk_at "callx")))
local macro_rules | `(tactic| walk_at "goN") => `(tactic| (repeat (first | walk_at "step" | walk_at "callx" | ((with_reducible show ∀ p, _ = none → _); walk_at "new"))))
local macro_rules | `(tactic| walk_at "len") => `(tactic| first
  | (obtain ⟨rfl, _⟩ := h; rfl) | (obtain ⟨_, rfl, _⟩ := h; rfl) | (obtain ⟨_, _, rfl, _⟩ := h; rfl) | (obtain ⟨_, _, _, rfl, _⟩ := h; rfl) | (obtain ⟨_, _, _, _, rfl, _⟩ := h; rfl)
  | (obtain ⟨_, _, _, _, _, rfl, _⟩ := h; rfl) | (obtain ⟨_, _, _, _, _, _, rfl, _⟩ := h; rfl) | (obtain ⟨_, _, _, _, _, _, _, rfl, _⟩ := h; rfl) | (obtain ⟨_, _, _, _, _, _, _, _, rfl, _⟩ := h; rfl)
  | (obtain ⟨_, _, _, _, _, _, _, _, _, rfl, _⟩ := h; rfl) | (obtain ⟨_, _, _, _, _, _, _, _, _, _, rfl, _⟩ := h; rfl))
local macro_rules | `(tactic| walk_at "dd") => `(tactic| first | with_reducible assumption | ((with_reducible refine' DctD.own ?h); (case h => walk_at "wk")) | ((with_reducible refine' DctD.lock ?h); (case h => walk_at "wk")))
local macro_rules | `(tactic| walk_at "mat") => `(tactic| first | ((with_reducible refine' MAt.ins ?h ?l); (case h => walk_at "wk"); (case l => rfl)) | ((with_reducible refine' log_mat ?h ?l ?l2); (case h => walk_at "wk"); (case l => decide +kernel); (case l2 => decide +kernel)))
local macro_rules | `(tactic| walk_at "isim") => `(tactic| first | ((with_reducible refine' m_isi_let_ ?t ?k ?h ?e ?_); (case t => assumption); (case e => assumption); (case h => rfl)) | ((with_reducible refine' m_isi_rk ?t ?k ?h ?e ?_); (case t => assumption); (case e => assumption); (case h => rfl)) | ((with_reducible refine' m_isi_take ?t ?k ?h ?e ?_); (case t => assumption); (case e => assumption); (case h => rfl)) | ((with_reducible refine' m_isi_put ?t ?k ?h ?e ?_); (case t => assumption); (case e => assumption); (case h => rfl)) | ((with_reducible refine' m_isi_throw ?t ?k ?h ?e ?_); (case t => assumption); (case e => assumption); (case h => rfl)) | ((with_reducible refine' m_isi_iff ?t ?k ?h ?e ?_); (case t => assumption); (case e => assumption); (case h => rfl)) | ((with_reducible refine' m_isi_eith ?t ?k ?h ?e ?_); (case t => assumption); (case e => assumption); (case h => rfl)) | ((with_reducible refine' m_isi_tryy ?t ?k ?h ?e ?_); (case t => assumption); (case e => assumption); (case h => rfl)))
def lt1 (n : Nat) : Str := ⟨#[n]⟩
def az : Str := "abcdefghijklmnopqrstuvwxyz"
def ah : Str := "abcdefgh"
theorem az_codes : az.cps.toList = (List.range 26).map (97 + ·) := by decide +kernel
theorem ah_codes : ah.cps.toList = (List.range 8).map (97 + ·) := by decide +kernel
theorem atI_codes {l : List Nat} {n : Nat} (e : l = (List.range n).map (97 + ·)) {i : Int} (h0 : 0 ≤ i) (h1 : i < n) : atI l i = some (97 + i.toNat) := by
  subst e
  have e2 : ((i.toNat : Nat) : Int) = i := by omega
  rw [← e2]
  refine atI_nat ?_
  rw [List.getElem?_map, List.getElem?_range (by omega), e2]
  rfl
section
variable {K : PySem.W.Frag} {W : Wd} {Q : KD}
theorem d_ixAZ {i : Int} (h0 : 0 ≤ i) (h1 : i < 26) (q : Q (.raw (.str (lt1 (97 + i.toNat)))) W) : RD K rIxS (.raw (.str "abcdefghijklmnopqrstuvwxyz")) (.raw (.int i)) W Q :=
  d_ixS (z := az) (by rw [sizeLine_eq]; decide +kernel) (atI_codes az_codes h0 h1) q
theorem d_ixAH {i : Int} (h0 : 0 ≤ i) (h1 : i < 8) (q : Q (.raw (.str (lt1 (97 + i.toNat)))) W) : RD K rIxS (.raw (.str "abcdefgh")) (.raw (.int i)) W Q :=
  d_ixS (z := ah) (by rw [sizeLine_eq]; decide +kernel) (atI_codes ah_codes h0 h1) q
end
def AZ (s : Str) : Prop := ∀ c ∈ s.cps.toList, 97 ≤ c ∧ c ≤ 122
structure NameOk (s : Str) : Prop where
  az : AZ s
  l1 : 1 ≤ s.length
  l8 : s.length ≤ 8
theorem AZ.nil : AZ ("" : Str) := fun c hc => by
  have e : ("" : Str).cps.toList = [] := by decide +kernel
  rw [e] at hc; cases hc
theorem AZ.app {s t : Str} (a : AZ s) (b : AZ t) : AZ (s ++ t) := fun c hc => by
  have e : (s ++ t).cps.toList = s.cps.toList ++ t.cps.toList := by show (s.cps ++ t.cps).toList = _; simp
  rw [e] at hc
  rcases List.mem_append.mp hc with h | h
  · exact a c h
  · exact b c h
theorem AZ.lt1 {n : Nat} (h : 97 ≤ n ∧ n ≤ 122) : AZ (lt1 n) := fun c hc => by
  have : c = n := by simpa [RT.lt1] using hc
  rw [this]; exact h
theorem lt1_len (n : Nat) : (lt1 n).length = 1 := rfl
local macro_rules | `(tactic| walk_at "callm") => `(tactic| fail)
section
variable {d : Ad} {vs : List V} {H : Hp} {Q : VK} {E : XK}
end
end
set_option Elab.async false
set_option linter.all false
set_option maxRecDepth 100000
set_option maxHeartbeats 400000
set_option autoImplicit false
section
open PySem L2
local macro_rules | `(tactic| walk_at "set") => `(tactic| ((try simp only [List.set_cons_succ, List.set_cons_zero]); rfl))
local macro_rules | `(tactic| walk_at "sc") => `(tactic| first | assumption | decide | omega | (unfold CMul; omega) | (unfold CDiv; omega) | (unfold CPow; decide) | (unfold CDiv; decide))
local macro_rules | `(tactic| walk_at "go") => `(tactic| (repeat (first | walk_at "step" | walk_at "callx")))
local macro_rules | `(tactic| walk_at "goN") => `(tactic| (repeat (first | walk_at "step" | walk_at "callx" | ((with_reducible show ∀ p, _ = none → _); walk_at "new"))))
local macro_rules | `(tactic| walk_at "len") => `(tactic| first
  | (obtain ⟨rfl, _⟩ := h; rfl) | (obtain ⟨_, rfl, _⟩ := h; rfl) | (obtain ⟨_, _, rfl, _⟩ := h; rfl) | (obtain ⟨_, _, _, rfl, _⟩ := h; rfl) | (obtain ⟨_, _, _, _, rfl, _⟩ := h; rfl)
  | (obtain ⟨_, _, _, _, _, rfl, _⟩ := h; rfl) | (obtain ⟨_, _, _, _, _, _, rfl, _⟩ := h; rfl) | (obtain ⟨_, _, _, _, _, _, _, rfl, _⟩ := h; rfl) | (obtain ⟨_, _, _, _, _, _, _, _, rfl, _⟩ := h; rfl)
  | (obtain ⟨_, _, _, _, _, _, _, _, _, rfl, _⟩ := h; rfl) | (obtain ⟨_, _, _, _, _, _, _, _, _, _, rfl, _⟩ := h; rfl))
local macro_rules | `(tactic| walk_at "dd") => `(tactic| first | with_reducible assumption | ((with_reducible refine' DctD.own ?h); (case h => walk_at "wk")) | ((with_reducible refine' DctD.lock ?h); (case h => walk_at "wk")))
local macro_rules | `(tactic| walk_at "mat") => `(tactic| first | ((with_reducible refine' MAt.ins ?h ?l); (case h => walk_at "wk"); (case l => rfl)) | ((with_reducible refine' log_mat ?h ?l ?l2); (case h => walk_at "wk"); (case l => decide +kernel); (case l2 => decide +kernel)))
local macro_rules | `(tactic| walk_at "isim") => `(tactic| first | ((with_reducible refine' m_isi_let_ ?t ?k ?h ?e ?_); (case t => assumption); (case e => assumption); (case h => rfl)) | ((with_reducible refine' m_isi_rk ?t ?k ?h ?e ?_); (case t => assumption); (case e => assumption); (case h => rfl)) | ((with_reducible refine' m_isi_take ?t ?k ?h ?e ?_); (case t => assumption); (case e => assumption); (case h => rfl)) | ((with_reducible refine' m_isi_put ?t ?k ?h ?e ?_); (case t => assumption); (case e => assumption); (case h => rfl)) | ((with_reducible refine' m_isi_throw ?t ?k ?h ?e ?_); (case t => assumption); (case e => assumption); (case h => rfl)) | ((with_reducible refine' m_isi_iff ?t ?k ?h ?e ?_); (case t => assumption); (case e => assumption); (case h => rfl)) | ((with_reducible refine' m_isi_eith ?t ?k ?h ?e ?_); (case t => assumption); (case e => assumption); (case h => rfl)) | ((with_reducible refine' m_isi_tryy ?t ?k ?h ?e ?_); (case t => assumption); (case e => assumption); (case h => rfl)))
def five : List Str := ["plus", "minus", "times", "less", "same"]
def Sl (s : Str) : Prop := ∃ k : Nat, k < 8 ∧ s = lt1 (97 + k)
mutual
def okP : Pt → Prop
  | .let_ s n => Sl s ∧ 0 ≤ n ∧ n < 18446744073709551616
  | .rk w s o t => w ∈ five ∧ Sl s ∧ Sl o ∧ Sl t
  | .take s p => Sl s ∧ Sl p
  | .put p s => Sl p ∧ Sl s
  | .iff s ps os => Sl s ∧ okPs ps ∧ okPs os
  | .eith ps os => okPs ps ∧ okPs os
  | .tryy ps n s os => okPs ps ∧ NameOk n ∧ Sl s ∧ okPs os
  | .throw n s => NameOk n ∧ Sl s
  | .wait => True
def okPs : List Pt → Prop
  | [] => True
  | p :: r => okP p ∧ okPs r
end
theorem okPs_iff : ∀ {ps : List Pt}, okPs ps ↔ ∀ p ∈ ps, okP p
  | [] => by simp [okPs]
  | p :: r => by rw [okPs, okPs_iff (ps := r)]; simp
theorem len_lenP : ∀ ps : List Pt, ps.length ≤ lenPs ps
  | [] => by simp [lenPs]
  | p :: r => by
    rw [lenPs, List.length_cons]
    have := len_lenP r
    have : 1 ≤ lenP p := by cases p <;> simp [lenP] <;> omega
    omega
local macro_rules | `(tactic| walk_at "callm") => `(tactic| walk_at "mkp")
section
variable {d : Ad} {vs : List V} {H : Hp} {Q : VK} {E : XK}
end
end
set_option Elab.async false
set_option linter.all false
set_option maxRecDepth 100000
set_option maxHeartbeats 400000
set_option autoImplicit false
section
open PySem L2
local macro_rules | `(tactic| walk_at "set") => `(tactic| ((try simp only [List.set_cons_succ, List.set_cons_zero]); rfl))
local macro_rules | `(tactic| walk_at "sc") => `(tactic| first | assumption | decide | omega | (unfold CMul; omega) | (unfold CDiv; omega) | (unfold CPow; decide) | (unfold CDiv; decide))
local macro_rules | `(tactic| walk_at "go") => `(tactic| (repeat (first | walk_at "step" | walk_at "callx")))
local macro_rules | `(tactic| walk_at "goN") => `(tactic| (repeat (first | walk_at "step" | walk_at "callx" | ((with_reducible show ∀ p, _ = none → _); walk_at "new"))))
local macro_rules | `(tactic| walk_at "len") => `(tactic| first
  | (obtain ⟨rfl, _⟩ := h; rfl) | (obtain ⟨_, rfl, _⟩ := h; rfl) | (obtain ⟨_, _, rfl, _⟩ := h; rfl) | (obtain ⟨_, _, _, rfl, _⟩ := h; rfl) | (obtain ⟨_, _, _, _, rfl, _⟩ := h; rfl)
  | (obtain ⟨_, _, _, _, _, rfl, _⟩ := h; rfl) | (obtain ⟨_, _, _, _, _, _, rfl, _⟩ := h; rfl) | (obtain ⟨_, _, _, _, _, _, _, rfl, _⟩ := h; rfl) | (obtain ⟨_, _, _, _, _, _, _, _, rfl, _⟩ := h; rfl)
  | (obtain ⟨_, _, _, _, _, _, _, _, _, rfl, _⟩ := h; rfl) | (obtain ⟨_, _, _, _, _, _, _, _, _, _, rfl, _⟩ := h; rfl))
local macro_rules | `(tactic| walk_at "dd") => `(tactic| first | with_reducible assumption | ((with_reducible refine' DctD.own ?h); (case h => walk_at "wk")) | ((with_reducible refine' DctD.lock ?h); (case h => walk_at "wk")))
local macro_rules | `(tactic| walk_at "mat") => `(tactic| first | ((with_reducible refine' MAt.ins ?h ?l); (case h => walk_at "wk"); (case l => rfl)) | ((with_reducible refine' log_mat ?h ?l ?l2); (case h => walk_at "wk"); (case l => decide +kernel); (case l2 => decide +kernel)))
local macro_rules | `(tactic| walk_at "isim") => `(tactic| first | ((with_reducible refine' m_isi_let_ ?t ?k ?h ?e ?_); (case t => assumption); (case e => assumption); (case h => rfl)) | ((with_reducible refine' m_isi_rk ?t ?k ?h ?e ?_); (case t => assumption); (case e => assumption); (case h => rfl)) | ((with_reducible refine' m_isi_take ?t ?k ?h ?e ?_); (case t => assumption); (case e => assumption); (case h => rfl)) | ((with_reducible refine' m_isi_put ?t ?k ?h ?e ?_); (case t => assumption); (case e => assumption); (case h => rfl)) | ((with_reducible refine' m_isi_throw ?t ?k ?h ?e ?_); (case t => assumption); (case e => assumption); (case h => rfl)) | ((with_reducible refine' m_isi_iff ?t ?k ?h ?e ?_); (case t => assumption); (case e => assumption); (case h => rfl)) | ((with_reducible refine' m_isi_eith ?t ?k ?h ?e ?_); (case t => assumption); (case e => assumption); (case h => rfl)) | ((with_reducible refine' m_isi_tryy ?t ?k ?h ?e ?_); (case t => assumption); (case e => assumption); (case h => rfl)))
abbrev Dm := List (Int × Int)
def encM (m : Dm) : List (Key × V) := m.map fun p => (.inl p.1, .int p.2)
def dget (m : Dm) (b : Int) : Option Int := (m.find? fun p => decide (p.1 = b)).map (·.2)
def dput (m : Dm) (b n : Int) : Dm := if (m.any fun p => decide (p.1 = b)) = true then m.map (fun p => if p.1 = b then (p.1, n) else p) else m ++ [(b, n)]
theorem dget_pos {p : Int × Int} {r : Dm} {k : Int} (e : p.1 = k) : dget (p :: r) k = some p.2 := by simp [dget, List.find?_cons, e]
theorem dget_neg {p : Int × Int} {r : Dm} {k : Int} (e : ¬ p.1 = k) : dget (p :: r) k = dget r k := by simp [dget, List.find?_cons, e]
theorem valV_enc : ∀ (m : Dm) (b : Int), valV (encM m) (.inl b : Key) = (dget m b).map V.int
  | [], _ => rfl
  | p :: r, b => by
    have ih := valV_enc r b
    show valV ((Sum.inl p.1, V.int p.2) :: encM r) (.inl b : Key) = _
    by_cases e : p.1 = b
    · rw [valV_pos (by rw [e]), dget_pos e]; rfl
    · rw [valV_neg (fun q => e (Sum.inl.inj q)), dget_neg e, ih]
theorem dget_any (b : Int) : ∀ m : Dm, (m.any fun p => decide (p.1 = b)) = (dget m b).isSome
  | [] => rfl
  | p :: r => by
    rw [List.any_cons]
    by_cases e : p.1 = b
    · rw [dget_pos e, decide_eq_true e]; rfl
    · rw [dget_neg e, decide_eq_false e, Bool.false_or]; exact dget_any b r
theorem putK_enc (m : Dm) (b n : Int) : putK (encM m) (.inl b : Key) (.int n) = encM (dput m b n) := by
  unfold putK dput
  rw [valV_any, valV_enc, dget_any]
  have e : ((dget m b).map V.int).isSome = (dget m b).isSome := by cases dget m b <;> rfl
  rw [e]
  split
  · unfold encM
    rw [List.map_map, List.map_map]
    refine List.map_congr_left fun p _ => ?_
    show (if (Sum.inl p.1 : Key) = .inl b then ((Sum.inl p.1 : Key), V.int n) else (Sum.inl p.1, V.int p.2)) = ((Sum.inl (if p.1 = b then (p.1, n) else p).1 : Key), V.int (if p.1 = b then (p.1, n) else p).2)
    by_cases h : p.1 = b
    · rw [if_pos (by rw [h]), if_pos h]
    · rw [if_neg (fun q => h (Sum.inl.inj q)), if_neg h]
  · unfold encM
    rw [List.map_append]
    rfl
theorem dget_put (m : Dm) (b n c : Int) : dget (dput m b n) c = if c = b then some n else dget m c := by
  have h := valV_put (encM m) (.inl b : Key) (.inl c : Key) (.int n)
  rw [putK_enc, valV_enc, valV_enc] at h
  by_cases e : c = b
  · subst e
    rw [if_pos rfl] at h ⊢
    cases g : dget (dput m c n) c with
    | none => rw [g] at h; cases h
    | some y => rw [g] at h; injection h with h; injection h with h; rw [h]
  · rw [if_neg e]
    rw [if_neg (fun q => e (Sum.inl.inj q))] at h
    cases g : dget (dput m b n) c with
    | none =>
      rw [g] at h
      cases g2 : dget m c with
      | none => rfl
      | some y => rw [g2] at h; cases h
    | some y =>
      rw [g] at h
      cases g2 : dget m c with
      | none => rw [g2] at h; cases h
      | some z => rw [g2] at h; injection h with h; injection h with h; rw [h]
def keysM (m : Dm) : List Int := m.map (·.1)
def sortK (m : Dm) : List Int := (keysM m).mergeSort (fun a b => decide (a ≤ b))
def bx (m : Dm) : List (Int × Int) := (sortK m).map fun b => (b, (dget m b).getD 0)
theorem sortK_perm (m : Dm) : (sortK m).Perm (keysM m) := List.mergeSort_perm _ _
theorem sortK_up (m : Dm) : (sortK m).Pairwise (· ≤ ·) := by
  have h := List.pairwise_mergeSort (le := fun a b : Int => decide (a ≤ b)) (fun a b c h1 h2 => by simp at *; omega) (fun a b => by simp; omega) (keysM m)
  exact h.imp fun h => by simpa using h
theorem sortK_is {m : Dm} {ys : List Int} (hp : ys.Perm (keysM m)) (hs : ys.Pairwise (· ≤ ·)) : ys = sortK m := PySem.W.ksm_same (hp.trans (sortK_perm m).symm) hs (sortK_up m)
theorem dget_in {m : Dm} {b : Int} (h : b ∈ keysM m) : ∃ n, dget m b = some n := by
  cases e : dget m b with
  | some n => exact ⟨n, rfl⟩
  | none =>
    exfalso
    have h1 := dget_any b m
    rw [e] at h1
    obtain ⟨p, hp, q⟩ := List.mem_map.mp h
    have h2 : (m.any fun p => decide (p.1 = b)) = true := List.any_eq_true.mpr ⟨p, hp, decide_eq_true q⟩
    rw [h2] at h1
    cases h1
def ownM (ts : List Dm) (b : Int) : Option Int := ts.reverse.findSome? fun m => dget m b
def putAll (m top : Dm) : Dm := top.foldl (fun acc p => dput acc p.1 p.2) m
structure KeysOk (m : Dm) : Prop where
  nd : (keysM m).Nodup
  le : ∀ k ∈ keysM m, 0 ≤ k ∧ k < 16
theorem KeysOk.nil : KeysOk [] := ⟨List.nodup_nil, fun _ h => by simp [keysM] at h⟩
theorem keys_put (m : Dm) (b n : Int) : keysM (dput m b n) = if (m.any fun p => decide (p.1 = b)) = true then keysM m else keysM m ++ [b] := by
  unfold dput
  by_cases h : (m.any fun p => decide (p.1 = b)) = true
  · rw [if_pos h, if_pos h]
    unfold keysM
    rw [List.map_map]
    refine List.map_congr_left fun p _ => ?_
    show (if p.1 = b then (p.1, n) else p).1 = p.1
    split <;> rfl
  · rw [if_neg h, if_neg h]
    unfold keysM
    rw [List.map_append]
    rfl
theorem KeysOk.put {m : Dm} (h : KeysOk m) {b : Int} (n : Int) (hb : 0 ≤ b ∧ b < 16) : KeysOk (dput m b n) := by
  have e := keys_put m b n
  by_cases q : (m.any fun p => decide (p.1 = b)) = true
  · rw [if_pos q] at e
    exact ⟨by rw [e]; exact h.nd, by rw [e]; exact h.le⟩
  · rw [if_neg q] at e
    refine ⟨?_, ?_⟩
    · rw [e]
      refine nd_snoc h.nd fun hm => q ?_
      obtain ⟨p, hp, e2⟩ := List.mem_map.mp hm
      exact List.any_eq_true.mpr ⟨p, hp, decide_eq_true e2⟩
    · rw [e]
      intro k hk
      rcases List.mem_append.mp hk with hk | hk
      · exact h.le k hk
      · rw [List.mem_singleton.mp hk]; exact hb
theorem KeysOk.all : ∀ (top m : Dm), KeysOk m → KeysOk top → KeysOk (putAll m top)
  | [], m, h, _ => h
  | p :: r, m, h, ht => by
    have h1 := ht.le p.1 (by simp [keysM])
    have h2 : KeysOk r := ⟨(List.nodup_cons.mp ht.nd).2, fun k hk => ht.le k (List.mem_cons_of_mem _ hk)⟩
    exact KeysOk.all r (dput m p.1 p.2) (h.put p.2 h1) h2
theorem sortK_range {m : Dm} (h : KeysOk m) : sortK m = ((List.range 16).filter fun i : Nat => (dget m (i : Int)).isSome).map fun i : Nat => (i : Int) := by
  refine (sortK_is ?_ ?_).symm
  · refine (List.perm_ext_iff_of_nodup ?_ h.nd).mpr fun k => ?_
    · exact List.Pairwise.map _ (fun a b (hab : a ≠ b) => by omega) ((List.nodup_range).filter _)
    · rw [List.mem_map]
      constructor
      · rintro ⟨i, hi, rfl⟩
        have := (List.mem_filter.mp hi).2
        rw [← dget_any] at this
        obtain ⟨p, hp, q⟩ := List.any_eq_true.mp this
        exact List.mem_map.mpr ⟨p, hp, of_decide_eq_true q⟩
      · intro hk
        have h1 := h.le k hk
        obtain ⟨n, hn⟩ := dget_in hk
        refine ⟨k.toNat, List.mem_filter.mpr ⟨List.mem_range.mpr (by omega), ?_⟩, by omega⟩
        rw [show ((k.toNat : Nat) : Int) = k by omega, hn]; rfl
  · have h1 : (List.range 16).Pairwise (· < ·) := List.pairwise_lt_range
    exact List.Pairwise.map _ (fun a b (hab : a < b) => by omega) (h1.filter _)
theorem KeysOk.len {m : Dm} (h : KeysOk m) : m.length ≤ 16 := by
  have h1 : (sortK m).length = m.length := by rw [(sortK_perm m).length_eq]; exact List.length_map _
  rw [← h1, sortK_range h, List.length_map]
  have h2 := List.length_filter_le (fun i : Nat => (dget m (i : Int)).isSome) (List.range 16)
  rwa [List.length_range] at h2
def dmD (m : Dm) : List (Key × D) := m.map fun p => (.inl p.1, .raw (.int p.2))
section
variable {K : PySem.W.Frag} {e : Env} {W : Wd} {te : TE} {Q : KD} {ts : TS} {E : DE} {x d : D} {QI : ItD → Wd → Prop} {B H : Hp} {a : Addr}
theorem close_vs {W W1 : Wd} {n : Nat} {X : List Addr → Wd} {F : List Addr} (hl : F.length = n) (hd : F.Nodup) (hh : F.head? = some a) (hf : ∀ b ∈ F, b ≠ a → W b = none) (hx : ∀ b, (X F b).isSome = true ↔ b ∈ F) (he : ∀ b ∈ F, W1 b = X F b) (ho : ∀ b c, b ∉ F → W b = some c → W1 b = some c) : Vs W1 (wset W a (.abs n X)) := by
  refine Vs.trans (W' := addW (wset W a (.abs n X)) F (X F)) (Vs.of fun b c q => ?_) (vs_close ws_same hl hd hh (fun b hb hne => by rw [ws_ne hne]; exact hf b hb hne) hx)
  by_cases z : b ∈ F
  · rw [aw_in z] at q; rw [he b z]; exact q
  · rw [aw_out z] at q
    have : b ≠ a := fun w => z (w ▸ head_mem hh)
    rw [ws_ne this] at q
    exact ho b c z q
end
def LogX (d : Ad) (ts : List Dm) (sn : Dm) : List Addr → Wd
  | L :: T :: S :: as => fun b => if b = L then some (.ins d.cLog [("tiers", .raw (.ref T)), ("seen", .raw (.ref S))]) else if b = T then some (.lst (as.map D.ptr)) else if b = S then some (.dct (dmD sn)) else ((as.zip ts).lookup b).map fun t => .dct (dmD t)
  | _ => fun _ => none
def logC (d : Ad) (ts : List Dm) (sn : Dm) : Cell := .abs (3 + ts.length) (LogX d ts sn)
structure LogIn (d : Ad) (W1 : Wd) (L T S : Addr) (as : List Addr) (ts : List Dm) (sn : Dm) : Prop where
  hL : W1 L = some (.ins d.cLog [("tiers", .raw (.ref T)), ("seen", .raw (.ref S))])
  hT : W1 T = some (.lst (as.map D.ptr))
  hS : W1 S = some (.dct (dmD sn))
  ln : as.length = ts.length
  at' : ∀ (i : Nat) (a : Addr) (t : Dm), as[i]? = some a → ts[i]? = some t → W1 a = some (.dct (dmD t))
  nd : (L :: T :: S :: as).Nodup
theorem zip_lookup {as : List Addr} {ts : List Dm} (nd : as.Nodup) (ln : as.length = ts.length) {i : Nat} {a : Addr} {t : Dm} (h : as[i]? = some a) (k : ts[i]? = some t) : (as.zip ts).lookup a = some t := by
  induction as generalizing ts i with
  | nil => simp at h
  | cons b as ih =>
    cases ts with
    | nil => simp at k
    | cons u ts =>
      rw [List.zip_cons_cons, List.lookup_cons]
      cases i with
      | zero => cases h; cases k; simp
      | succ i =>
        have hm : a ∈ as := List.mem_of_getElem? (by simpa using h)
        have : a ≠ b := fun q => (List.nodup_cons.mp nd).1 (q ▸ hm)
        rw [beq_eq_false_iff_ne.mpr this]
        exact ih (List.nodup_cons.mp nd).2 (by simpa using ln) (by simpa using h) (by simpa using k)
theorem zip_none {as : List Addr} {ts : List Dm} (ln : as.length = ts.length) (b : Addr) : ((as.zip ts).lookup b).isSome = true ↔ b ∈ as := by
  induction as generalizing ts with
  | nil => simp
  | cons a as ih =>
    cases ts with
    | nil => simp at ln
    | cons t ts =>
      rw [List.zip_cons_cons, List.lookup_cons]
      by_cases q : b = a
      · subst q; simp
      · rw [beq_eq_false_iff_ne.mpr q]
        rw [ih (by simpa using ln)]
        simp [q]
theorem LogX_eq (d : Ad) (ts : List Dm) (sn : Dm) (L T S : Addr) (as : List Addr) (b : Addr) : LogX d ts sn (L :: T :: S :: as) b = if b = L then some (.ins d.cLog [("tiers", .raw (.ref T)), ("seen", .raw (.ref S))]) else if b = T then some (.lst (as.map D.ptr)) else if b = S then some (.dct (dmD sn)) else ((as.zip ts).lookup b).map fun t => .dct (dmD t) := rfl
theorem LogX_dom {d : Ad} {ts : List Dm} {sn : Dm} {L T S : Addr} {as : List Addr} (ln : as.length = ts.length) (b : Addr) : (LogX d ts sn (L :: T :: S :: as) b).isSome = true ↔ b ∈ L :: T :: S :: as := by
  rw [LogX_eq]
  by_cases h1 : b = L
  · rw [if_pos h1]; simp [h1]
  · rw [if_neg h1]
    by_cases h2 : b = T
    · rw [if_pos h2]; simp [h2]
    · rw [if_neg h2]
      by_cases h3 : b = S
      · rw [if_pos h3]; simp [h3]
      · rw [if_neg h3, Option.isSome_map, zip_none ln b]
        simp [h1, h2, h3]
theorem LogIn.X {d : Ad} {W1 : Wd} {L T S : Addr} {as : List Addr} {ts : List Dm} {sn : Dm} (g : LogIn d W1 L T S as ts sn) : ∀ b ∈ L :: T :: S :: as, W1 b = LogX d ts sn (L :: T :: S :: as) b := by
  intro b hb
  have nd := g.nd
  simp only [List.nodup_cons, List.mem_cons, not_or] at nd
  rw [LogX_eq]
  by_cases h1 : b = L
  · rw [if_pos h1, h1, g.hL]
  · by_cases h2 : b = T
    · rw [if_neg h1, if_pos h2, h2, g.hT]
    · by_cases h3 : b = S
      · rw [if_neg h1, if_neg h2, if_pos h3, h3, g.hS]
      · rw [if_neg h1, if_neg h2, if_neg h3]
        have hm : b ∈ as := by simpa [h1, h2, h3] using hb
        obtain ⟨i, hi⟩ := List.getElem?_of_mem hm
        have hlt := (List.getElem?_eq_some_iff.mp hi).1
        have ht := List.getElem?_eq_getElem (l := ts) (i := i) (by rw [← g.ln]; exact hlt)
        rw [zip_lookup nd.2.2.2 g.ln hi ht, g.at' i b _ hi ht]
        rfl
theorem LogIn.of {d : Ad} {W1 : Wd} {L T S : Addr} {as : List Addr} {ts : List Dm} {sn : Dm} (g : LogIn d W1 L T S as ts sn) : ∀ x ∈ L :: T :: S :: as, ∃ c, W1 x = some c := fun x hx => by
  have := (LogX_dom (d := d) (sn := sn) g.ln x).mpr hx
  rw [← g.X x hx] at this
  exact Option.isSome_iff_exists.mp this
theorem LogIn.other {d : Ad} {W1 : Wd} {L T S q : Addr} {as : List Addr} {ts : List Dm} {sn : Dm} {c : Cell} (g : LogIn d W1 L T S as ts sn) (hq : ∀ b ∈ L :: T :: S :: as, b ≠ q) : LogIn d (wset W1 q c) L T S as ts sn :=
  ⟨by rw [ws_ne (hq L (by simp))]; exact g.hL, by rw [ws_ne (hq T (by simp))]; exact g.hT, by rw [ws_ne (hq S (by simp))]; exact g.hS, g.ln, fun i a u h k => by rw [ws_ne (hq a (by simp [List.mem_of_getElem? h]))]; exact g.at' i a u h k, g.nd⟩
local macro_rules | `(tactic| walk_at "callm") => `(tactic| fail)
section
variable {d : Ad} {vs : List V} {H : Hp} {Q : VK} {E : XK}
end
end
set_option Elab.async false
set_option linter.all false
set_option maxRecDepth 100000
set_option maxHeartbeats 400000
set_option autoImplicit false
section
open PySem L2
local macro_rules | `(tactic| walk_at "set") => `(tactic| ((try simp only [List.set_cons_succ, List.set_cons_zero]); rfl))
local macro_rules | `(tactic| walk_at "sc") => `(tactic| first | assumption | decide | omega | (unfold CMul; omega) | (unfold CDiv; omega) | (unfold CPow; decide) | (unfold CDiv; decide))
local macro_rules | `(tactic| walk_at "go") => `(tactic| (repeat (first | walk_at "step" | walk_at "callx")))
local macro_rules | `(tactic| walk_at "goN") => `(tactic| (repeat (first | walk_at "step" | walk_at "callx" | ((with_reducible show ∀ p, _ = none → _); walk_at "new"))))
local macro_rules | `(tactic| walk_at "len") => `(tactic| first
  | (obtain ⟨rfl, _⟩ := h; rfl) | (obtain ⟨_, rfl, _⟩ := h; rfl) | (obtain ⟨_, _, rfl, _⟩ := h; rfl) | (obtain ⟨_, _, _, rfl, _⟩ := h; rfl) | (obtain ⟨_, _, _, _, rfl, _⟩ := h; rfl)
  | (obtain ⟨_, _, _, _, _, rfl, _⟩ := h; rfl) | (obtain ⟨_, _, _, _, _, _, rfl, _⟩ := h; rfl) | (obtain ⟨_, _, _, _, _, _, _, rfl, _⟩ := h; rfl) | (obtain ⟨_, _, _, _, _, _, _, _, rfl, _⟩ := h; rfl)
  | (obtain ⟨_, _, _, _, _, _, _, _, _, rfl, _⟩ := h; rfl) | (obtain ⟨_, _, _, _, _, _, _, _, _, _, rfl, _⟩ := h; rfl))
local macro_rules | `(tactic| walk_at "dd") => `(tactic| first | with_reducible assumption | ((with_reducible refine' DctD.own ?h); (case h => walk_at "wk")) | ((with_reducible refine' DctD.lock ?h); (case h => walk_at "wk")))
local macro_rules | `(tactic| walk_at "mat") => `(tactic| first | ((with_reducible refine' MAt.ins ?h ?l); (case h => walk_at "wk"); (case l => rfl)) | ((with_reducible refine' log_mat ?h ?l ?l2); (case h => walk_at "wk"); (case l => decide +kernel); (case l2 => decide +kernel)))
local macro_rules | `(tactic| walk_at "isim") => `(tactic| first | ((with_reducible refine' m_isi_let_ ?t ?k ?h ?e ?_); (case t => assumption); (case e => assumption); (case h => rfl)) | ((with_reducible refine' m_isi_rk ?t ?k ?h ?e ?_); (case t => assumption); (case e => assumption); (case h => rfl)) | ((with_reducible refine' m_isi_take ?t ?k ?h ?e ?_); (case t => assumption); (case e => assumption); (case h => rfl)) | ((with_reducible refine' m_isi_put ?t ?k ?h ?e ?_); (case t => assumption); (case e => assumption); (case h => rfl)) | ((with_reducible refine' m_isi_throw ?t ?k ?h ?e ?_); (case t => assumption); (case e => assumption); (case h => rfl)) | ((with_reducible refine' m_isi_iff ?t ?k ?h ?e ?_); (case t => assumption); (case e => assumption); (case h => rfl)) | ((with_reducible refine' m_isi_eith ?t ?k ?h ?e ?_); (case t => assumption); (case e => assumption); (case h => rfl)) | ((with_reducible refine' m_isi_tryy ?t ?k ?h ?e ?_); (case t => assumption); (case e => assumption); (case h => rfl)))
def ix (s : Str) : Nat := s.cps.getD 0 0 - 97
theorem ix_lt (k : Nat) : ix (lt1 (97 + k)) = k := by unfold ix lt1; simp
theorem ix_sl {s : Str} (h : Sl s) : ix s < 8 := by
  obtain ⟨k, hk, rfl⟩ := h
  rw [ix_lt]; exact hk
abbrev WIDE : Int := 18446744073709551616
def rkn (w : Str) (a b : Int) : Int :=
  if w = "plus" then (a + b) % WIDE else if w = "minus" then (a - b) % WIDE else if w = "times" then a * b % WIDE else if w = "less" then (if a < b then 1 else 0) else if a = b then 1 else 0
structure AS where
  ps : List Int
  ts : List Dm
  sn : Dm
inductive AE | waits | fell (n : Str) (v : Int)
def lk (σ : AS) (s : Str) : Int := σ.ps.getD (ix s) 0
def AS.give (σ : AS) (s : Str) (n : Int) : AS := { σ with ps := σ.ps.set (ix s) n }
def bxAt (bs : List Int) (σ : AS) (s : Str) : Int := lk σ s % (bs.length : Nat)
def topPut (ts : List Dm) (b n : Int) : List Dm := ts.dropLast ++ [dput (ts.getLastD []) b n]
def settleT (ts : List Dm) : List Dm := ts.dropLast.dropLast ++ [putAll (ts.dropLast.getLastD []) (ts.getLastD [])]
def takeS (bs : List Int) (σ : AS) (s p : Str) : AS :=
  let b := bxAt bs σ p
  match ownM σ.ts b with
  | some v => σ.give s v
  | none => { σ with sn := dput σ.sn b (bs.getD b.toNat 0) }.give s (bs.getD b.toNat 0)
def plainS (bs : List Int) : Pt → AS → AS
  | .let_ s n, σ => σ.give s n
  | .rk w s o t, σ => σ.give s (rkn w (lk σ o) (lk σ t))
  | .take s p, σ => takeS bs σ s p
  | .put p s, σ => { σ with ts := topPut σ.ts (bxAt bs σ p) (lk σ s) }
  | _, σ => σ
def Nm (v : Int) : Prop := 0 ≤ v ∧ v < WIDE
theorem nm_mod (v : Int) : Nm (v % WIDE) := ⟨Int.emod_nonneg _ (by decide), Int.emod_lt_of_pos _ (by decide)⟩
theorem nm_bit (p : Prop) [Decidable p] : Nm (if p then 1 else 0) := by unfold Nm WIDE; split <;> omega
theorem nm_rkn (w : Str) (a b : Int) : Nm (rkn w a b) := by
  unfold rkn
  split
  · exact nm_mod _
  · split
    · exact nm_mod _
    · split
      · exact nm_mod _
      · split
        · exact nm_bit _
        · exact nm_bit _
structure DmOk (m : Dm) : Prop where
  k : KeysOk m
  v : ∀ p ∈ m, Nm p.2
theorem DmOk.nil : DmOk [] := ⟨.nil, fun p hp => by cases hp⟩
theorem DmOk.put {m : Dm} (h : DmOk m) {b v : Int} (hv : Nm v) (hb : 0 ≤ b ∧ b < 16) : DmOk (dput m b v) := ⟨h.k.put v hb, fun p hp => by
  unfold dput at hp
  split at hp
  · obtain ⟨q, hq, e⟩ := List.mem_map.mp hp
    split at e
    · subst e; exact hv
    · subst e; exact h.v _ hq
  · rcases List.mem_append.mp hp with hp | hp
    · exact h.v _ hp
    · rw [List.mem_singleton.mp hp]; exact hv⟩
theorem DmOk.all : ∀ (top m : Dm), DmOk m → DmOk top → DmOk (putAll m top)
  | [], m, h, _ => h
  | p :: r, m, h, ht => by
    have h1 := ht.k.le p.1 (by simp [keysM])
    have h2 : DmOk r := ⟨⟨(List.nodup_cons.mp ht.k.nd).2, fun k hk => ht.k.le k (List.mem_cons_of_mem _ hk)⟩, fun q hq => ht.v q (List.mem_cons_of_mem _ hq)⟩
    exact DmOk.all r (dput m p.1 p.2) (h.put (ht.v p (by simp)) h1) h2
theorem DmOk.get {m : Dm} (h : DmOk m) {b n : Int} (e : dget m b = some n) : Nm n := by
  unfold dget at e
  obtain ⟨p, hp, rfl⟩ := Option.map_eq_some_iff.mp e
  exact h.v _ (List.mem_of_find?_eq_some hp)
theorem own_nm {ts : List Dm} (h : ∀ t ∈ ts, DmOk t) {b n : Int} (e : ownM ts b = some n) : Nm n := by
  unfold ownM at e
  obtain ⟨m, hm, hd⟩ := List.exists_of_findSome?_eq_some e
  exact (h m (by simpa using hm)).get hd
structure OkS (σ : AS) (n : Nat) : Prop where
  ps : σ.ps.length = 8
  nb : ∀ v ∈ σ.ps, Nm v
  ln : σ.ts.length = n
  ts : ∀ t ∈ σ.ts, DmOk t
  sn : DmOk σ.sn
structure OkB (bs : List Int) : Prop where
  l1 : 1 ≤ bs.length
  l2 : bs.length ≤ 16
  nb : ∀ v ∈ bs, Nm v
theorem OkB.at {bs : List Int} (h : OkB bs) (i : Int) : 0 ≤ i % (bs.length : Nat) ∧ i % (bs.length : Nat) < (bs.length : Nat) ∧ i % (bs.length : Nat) < 16 := by
  have h1 := h.l1
  have h2 := h.l2
  have h3 := Int.emod_nonneg i (b := ((bs.length : Nat) : Int)) (by omega)
  have h4 := Int.emod_lt_of_pos i (b := ((bs.length : Nat) : Int)) (by omega)
  exact ⟨h3, h4, by omega⟩
theorem getD_mem {l : List Int} {i : Nat} (h : i < l.length) : l.getD i 0 ∈ l := by
  rw [List.getD_eq_getElem?_getD, List.getElem?_eq_getElem h]
  exact List.getElem_mem h
theorem OkS.lkN {σ : AS} {n : Nat} (h : OkS σ n) {s : Str} (hs : Sl s) : Nm (RT.lk σ s) := h.nb _ (getD_mem (by rw [h.ps]; exact ix_sl hs))
theorem OkS.give {σ : AS} {n : Nat} (h : OkS σ n) (s : Str) {v : Int} (hv : Nm v) : OkS (σ.give s v) n := ⟨by show (σ.ps.set _ _).length = 8; rw [List.length_set]; exact h.ps, fun u hu => by
  rcases List.mem_or_eq_of_mem_set (show u ∈ σ.ps.set (ix s) v from hu) with z | z
  · exact h.nb _ z
  · rw [z]; exact hv, h.ln, h.ts, h.sn⟩
theorem OkS.see {σ : AS} {n : Nat} (h : OkS σ n) {b v : Int} (hv : Nm v) (hb : 0 ≤ b ∧ b < 16) : OkS { σ with sn := dput σ.sn b v } n := ⟨h.ps, h.nb, h.ln, h.ts, h.sn.put hv hb⟩
theorem ts_split {ts : List Dm} {n : Nat} (h : ts.length = n + 1) : ∃ t0 t, ts = t0 ++ [t] ∧ t0.length = n := by
  rcases List.eq_nil_or_concat ts with z | ⟨a, x, z⟩
  · subst z; simp at h
  · subst z; exact ⟨a, x, by simp, by simpa using h⟩
theorem OkS.put {σ : AS} {n : Nat} (h : OkS σ (n + 1)) {b v : Int} (hv : Nm v) (hb : 0 ≤ b ∧ b < 16) : OkS { σ with ts := topPut σ.ts b v } (n + 1) := by
  obtain ⟨t0, t, e, l⟩ := ts_split h.ln
  refine ⟨h.ps, h.nb, ?_, fun u hu => ?_, h.sn⟩
  · show (topPut σ.ts b v).length = _
    rw [e]; unfold topPut; simp [l]
  · have hu : u ∈ topPut σ.ts b v := hu
    rw [e] at hu
    unfold topPut at hu
    simp at hu
    rcases hu with hu | rfl
    · exact h.ts u (by rw [e]; simp [hu])
    · exact (h.ts t (by rw [e]; simp)).put hv hb
theorem OkS.push {σ : AS} {n : Nat} (h : OkS σ n) : OkS { σ with ts := σ.ts ++ [[]] } (n + 1) := ⟨h.ps, h.nb, by show (σ.ts ++ [[]]).length = _; simp [h.ln], fun u hu => by
  rcases List.mem_append.mp hu with hu | hu
  · exact h.ts u hu
  · rw [List.mem_singleton.mp hu]; exact .nil, h.sn⟩
theorem settle_eq (t0 : List Dm) (m top : Dm) : settleT (t0 ++ [m] ++ [top]) = t0 ++ [putAll m top] := by unfold settleT; simp
theorem OkS.settle {σ : AS} {n : Nat} (h : OkS σ (n + 2)) : OkS { σ with ts := settleT σ.ts } (n + 1) := by
  obtain ⟨t1, top, e, l⟩ := ts_split (n := n + 1) h.ln
  obtain ⟨t0, m, e2, l2⟩ := ts_split l
  subst e2
  refine ⟨h.ps, h.nb, ?_, fun u hu => ?_, h.sn⟩
  · show (settleT σ.ts).length = _
    rw [e, settle_eq]; simp [l2]
  · have hu : u ∈ settleT σ.ts := hu
    rw [e, settle_eq] at hu
    rcases List.mem_append.mp hu with hu | hu
    · exact h.ts u (by rw [e]; simp [hu])
    · rw [List.mem_singleton.mp hu]
      exact DmOk.all _ _ (h.ts m (by rw [e]; simp)) (h.ts top (by rw [e]; simp))
theorem OkS.plain {bs : List Int} (ob : OkB bs) {σ : AS} {n : Nat} (h : OkS σ (n + 1)) {p : Pt} (ok : okP p) : OkS (plainS bs p σ) (n + 1) := by
  cases p with
  | let_ s v => exact h.give s ok.2
  | rk w s o t => exact h.give s (nm_rkn _ _ _)
  | take s p =>
    show OkS (takeS bs σ s p) _
    have b := ob.at (lk σ p)
    have hb : Nm (bs.getD (bxAt bs σ p).toNat 0) := ob.nb _ (getD_mem (by unfold bxAt; omega))
    unfold takeS
    simp only
    split
    · rename_i v e
      exact h.give _ (own_nm h.ts e)
    · exact (h.see hb ⟨b.1, b.2.2⟩).give _ hb
  | put p s =>
    have b := ob.at (lk σ p)
    exact h.put (h.lkN ok.2) ⟨b.1, b.2.2⟩
  | iff => exact h
  | eith => exact h
  | tryy => exact h
  | throw => exact h
  | wait => exact h
def doF (bs : List Int) (P L : Addr) : List (Str × D) := [("stand", .lst (bs.map D.int)), ("pockets", .raw (.ref P)), ("log", .raw (.ref L))]
structure DoAt (d : Ad) (W : Wd) (x P L : Addr) (bs : List Int) (σ : AS) : Prop where
  hx : W x = some (.ins d.cDoer (doF bs P L))
  hP : W P = some (.lst (σ.ps.map D.int))
  hL : W L = some (logC d σ.ts σ.sn)
def doW (d : Ad) (W : Wd) (x P P' L : Addr) (bs : List Int) (σ : AS) : Wd := fun b => if b = x then some (.ins d.cDoer (doF bs P' L)) else if b = P' then some (.lst (σ.ps.map D.int)) else if b = L then some (logC d σ.ts σ.sn) else if b = P then none else W b
section
variable {d : Ad} {W : Wd} {x P P' P2 L : Addr} {bs : List Int} {σ τ : AS}
theorem DoAt.ne (h : DoAt d W x P L bs σ) : x ≠ P ∧ x ≠ L ∧ P ≠ L := by
  refine ⟨fun e => ?_, fun e => ?_, fun e => ?_⟩
  · have := h.hx; rw [e, h.hP] at this; cases this
  · have := h.hx; rw [e, h.hL] at this; cases this
  · have := h.hP; rw [e, h.hL] at this; cases this
theorem doW_at (h1 : P' ≠ x) (h2 : P' ≠ L) (h3 : x ≠ L) : DoAt d (doW d W x P P' L bs σ) x P' L bs σ := ⟨by unfold doW; rw [if_pos rfl], by unfold doW; rw [if_neg h1, if_pos rfl], by unfold doW; rw [if_neg h3.symm, if_neg h2.symm, if_pos rfl]⟩
end
section
variable {d : Ad} {W : Wd} {x P L : Addr} {bs : List Int} {σ : AS}
theorem DoAt.w (g : DoAt d W x P L bs σ) (τ : AS) : DoAt d (doW d W x P P L bs τ) x P L bs τ := doW_at g.ne.1.symm g.ne.2.2 g.ne.2.1
end
def TWait (d : Ad) : Prop := ∀ k, PySem.W.kitOne d.K (.ref (cOf d k)) (.ref d.cWait) = some (decide (k = .wait))
theorem m_isi_wait {d : Ad} {W : Wd} {Q : KD} {C : Addr} {b : Bool} {ns : List Str} {ds : List D} (T : TParts d) (TW : TWait d) (k : Kd) (h : decide (k = .wait) = b) (e : cOf d k = C) (q : Q (.raw (.bl b)) W) : RC d.K (rIsi d.K) [.obj C ns ds, .raw (.ref d.cWait)] W Q := fun B H vs kk s r hk => by
  subst e
  cases r with
  | cons r1 r2 =>
    cases r2 with
    | cons r2 r3 =>
      cases r2; cases r3
      cases r1 with
      | obj g hl hs => exact w_isi (.own _) (ty_part T (s.ex _ _ g)) (by rw [TW k, h]) (hk _ B H _ W (Evl.Ex.refl _) s (.raw _) q)
local macro_rules | `(tactic| walk_at "callm") => `(tactic| walk_at "isim")
section
variable {d : Ad} {vs : List V} {H : Hp} {Q : VK} {E : XK}
end
section
variable {d : Ad} {vs : List V} {H : Hp} {Q : VK} {E : XK}
end
end
set_option Elab.async false
set_option linter.all false
set_option maxRecDepth 100000
set_option maxHeartbeats 400000
set_option autoImplicit false
section
open PySem L2
local macro_rules | `(tactic| walk_at "set") => `(tactic| ((try simp only [List.set_cons_succ, List.set_cons_zero]); rfl))
local macro_rules | `(tactic| walk_at "sc") => `(tactic| first | assumption | decide | omega | (unfold CMul; omega) | (unfold CDiv; omega) | (unfold CPow; decide) | (unfold CDiv; decide))
local macro_rules | `(tactic| walk_at "go") => `(tactic| (repeat (first | walk_at "step" | walk_at "callx")))
local macro_rules | `(tactic| walk_at "goN") => `(tactic| (repeat (first | walk_at "step" | walk_at "callx" | ((with_reducible show ∀ p, _ = none → _); walk_at "new"))))
local macro_rules | `(tactic| walk_at "len") => `(tactic| first
  | (obtain ⟨rfl, _⟩ := h; rfl) | (obtain ⟨_, rfl, _⟩ := h; rfl) | (obtain ⟨_, _, rfl, _⟩ := h; rfl) | (obtain ⟨_, _, _, rfl, _⟩ := h; rfl) | (obtain ⟨_, _, _, _, rfl, _⟩ := h; rfl)
  | (obtain ⟨_, _, _, _, _, rfl, _⟩ := h; rfl) | (obtain ⟨_, _, _, _, _, _, rfl, _⟩ := h; rfl) | (obtain ⟨_, _, _, _, _, _, _, rfl, _⟩ := h; rfl) | (obtain ⟨_, _, _, _, _, _, _, _, rfl, _⟩ := h; rfl)
  | (obtain ⟨_, _, _, _, _, _, _, _, _, rfl, _⟩ := h; rfl) | (obtain ⟨_, _, _, _, _, _, _, _, _, _, rfl, _⟩ := h; rfl))
local macro_rules | `(tactic| walk_at "dd") => `(tactic| first | with_reducible assumption | ((with_reducible refine' DctD.own ?h); (case h => walk_at "wk")) | ((with_reducible refine' DctD.lock ?h); (case h => walk_at "wk")))
local macro_rules | `(tactic| walk_at "mat") => `(tactic| first | ((with_reducible refine' MAt.ins ?h ?l); (case h => walk_at "wk"); (case l => rfl)) | ((with_reducible refine' log_mat ?h ?l ?l2); (case h => walk_at "wk"); (case l => decide +kernel); (case l2 => decide +kernel)))
local macro_rules | `(tactic| walk_at "isim") => `(tactic| first | ((with_reducible refine' m_isi_let_ ?t ?k ?h ?e ?_); (case t => assumption); (case e => assumption); (case h => rfl)) | ((with_reducible refine' m_isi_rk ?t ?k ?h ?e ?_); (case t => assumption); (case e => assumption); (case h => rfl)) | ((with_reducible refine' m_isi_take ?t ?k ?h ?e ?_); (case t => assumption); (case e => assumption); (case h => rfl)) | ((with_reducible refine' m_isi_put ?t ?k ?h ?e ?_); (case t => assumption); (case e => assumption); (case h => rfl)) | ((with_reducible refine' m_isi_throw ?t ?k ?h ?e ?_); (case t => assumption); (case e => assumption); (case h => rfl)) | ((with_reducible refine' m_isi_iff ?t ?k ?h ?e ?_); (case t => assumption); (case e => assumption); (case h => rfl)) | ((with_reducible refine' m_isi_eith ?t ?k ?h ?e ?_); (case t => assumption); (case e => assumption); (case h => rfl)) | ((with_reducible refine' m_isi_tryy ?t ?k ?h ?e ?_); (case t => assumption); (case e => assumption); (case h => rfl)))
local macro_rules | `(tactic| walk_at "callm") => `(tactic| first | walk_at "isim" | ((with_reducible refine' m_isi_wait ?t ?tw ?k ?h ?e ?_); (case t => assumption); (case tw => assumption); (case e => assumption); (case h => rfl)))
section
variable {d : Ad} {vs : List V} {H : Hp} {Q : VK} {E : XK}
end
end
set_option Elab.async false
set_option linter.all false
set_option maxRecDepth 100000
set_option maxHeartbeats 400000
set_option autoImplicit false
section
open PySem L2
end
set_option Elab.async false
set_option linter.all false
set_option maxRecDepth 100000
set_option maxHeartbeats 400000
set_option autoImplicit false
section
open PySem L2
section
open PySem.Spec PyProof.Rows
end
local macro_rules | `(tactic| walk_at "set") => `(tactic| ((try simp only [List.set_cons_succ, List.set_cons_zero]); rfl))
local macro_rules | `(tactic| walk_at "sc") => `(tactic| first | assumption | decide | omega | (unfold CMul; omega) | (unfold CDiv; omega) | (unfold CPow; decide) | (unfold CDiv; decide))
local macro_rules | `(tactic| walk_at "go") => `(tactic| (repeat (first | walk_at "step" | walk_at "callx")))
local macro_rules | `(tactic| walk_at "goN") => `(tactic| (repeat (first | walk_at "step" | walk_at "callx" | ((with_reducible show ∀ p, _ = none → _); walk_at "new"))))
local macro_rules | `(tactic| walk_at "len") => `(tactic| first
  | (obtain ⟨rfl, _⟩ := h; rfl) | (obtain ⟨_, rfl, _⟩ := h; rfl) | (obtain ⟨_, _, rfl, _⟩ := h; rfl) | (obtain ⟨_, _, _, rfl, _⟩ := h; rfl) | (obtain ⟨_, _, _, _, rfl, _⟩ := h; rfl)
  | (obtain ⟨_, _, _, _, _, rfl, _⟩ := h; rfl) | (obtain ⟨_, _, _, _, _, _, rfl, _⟩ := h; rfl) | (obtain ⟨_, _, _, _, _, _, _, rfl, _⟩ := h; rfl) | (obtain ⟨_, _, _, _, _, _, _, _, rfl, _⟩ := h; rfl)
  | (obtain ⟨_, _, _, _, _, _, _, _, _, rfl, _⟩ := h; rfl) | (obtain ⟨_, _, _, _, _, _, _, _, _, _, rfl, _⟩ := h; rfl))
local macro_rules | `(tactic| walk_at "dd") => `(tactic| first | with_reducible assumption | ((with_reducible refine' DctD.own ?h); (case h => walk_at "wk")) | ((with_reducible refine' DctD.lock ?h); (case h => walk_at "wk")))
local macro_rules | `(tactic| walk_at "mat") => `(tactic| first | ((with_reducible refine' MAt.ins ?h ?l); (case h => walk_at "wk"); (case l => rfl)) | ((with_reducible refine' log_mat ?h ?l ?l2); (case h => walk_at "wk"); (case l => decide +kernel); (case l2 => decide +kernel)))
local macro_rules | `(tactic| walk_at "isim") => `(tactic| first | ((with_reducible refine' m_isi_let_ ?t ?k ?h ?e ?_); (case t => assumption); (case e => assumption); (case h => rfl)) | ((with_reducible refine' m_isi_rk ?t ?k ?h ?e ?_); (case t => assumption); (case e => assumption); (case h => rfl)) | ((with_reducible refine' m_isi_take ?t ?k ?h ?e ?_); (case t => assumption); (case e => assumption); (case h => rfl)) | ((with_reducible refine' m_isi_put ?t ?k ?h ?e ?_); (case t => assumption); (case e => assumption); (case h => rfl)) | ((with_reducible refine' m_isi_throw ?t ?k ?h ?e ?_); (case t => assumption); (case e => assumption); (case h => rfl)) | ((with_reducible refine' m_isi_iff ?t ?k ?h ?e ?_); (case t => assumption); (case e => assumption); (case h => rfl)) | ((with_reducible refine' m_isi_eith ?t ?k ?h ?e ?_); (case t => assumption); (case e => assumption); (case h => rfl)) | ((with_reducible refine' m_isi_tryy ?t ?k ?h ?e ?_); (case t => assumption); (case e => assumption); (case h => rfl)))
end
set_option Elab.async false
set_option linter.all false
set_option maxRecDepth 100000
set_option maxHeartbeats 400000
set_option autoImplicit false
section
open PySem L2
local macro_rules | `(tactic| walk_at "set") => `(tactic| ((try simp only [List.set_cons_succ, List.set_cons_zero]); rfl))
local macro_rules | `(tactic| walk_at "sc") => `(tactic| first | assumption | decide | omega | (unfold CMul; omega) | (unfold CDiv; omega) | (unfold CPow; decide) | (unfold CDiv; decide))
local macro_rules | `(tactic| walk_at "go") => `(tactic| (repeat (first | walk_at "step" | walk_at "callx")))
local macro_rules | `(tactic| walk_at "goN") => `(tactic| (repeat (first | walk_at "step" | walk_at "callx" | ((with_reducible show ∀ p, _ = none → _); walk_at "new"))))
local macro_rules | `(tactic| walk_at "len") => `(tactic| first
  | (obtain ⟨rfl, _⟩ := h; rfl) | (obtain ⟨_, rfl, _⟩ := h; rfl) | (obtain ⟨_, _, rfl, _⟩ := h; rfl) | (obtain ⟨_, _, _, rfl, _⟩ := h; rfl) | (obtain ⟨_, _, _, _, rfl, _⟩ := h; rfl)
  | (obtain ⟨_, _, _, _, _, rfl, _⟩ := h; rfl) | (obtain ⟨_, _, _, _, _, _, rfl, _⟩ := h; rfl) | (obtain ⟨_, _, _, _, _, _, _, rfl, _⟩ := h; rfl) | (obtain ⟨_, _, _, _, _, _, _, _, rfl, _⟩ := h; rfl)
  | (obtain ⟨_, _, _, _, _, _, _, _, _, rfl, _⟩ := h; rfl) | (obtain ⟨_, _, _, _, _, _, _, _, _, _, rfl, _⟩ := h; rfl))
local macro_rules | `(tactic| walk_at "dd") => `(tactic| first | with_reducible assumption | ((with_reducible refine' DctD.own ?h); (case h => walk_at "wk")) | ((with_reducible refine' DctD.lock ?h); (case h => walk_at "wk")))
local macro_rules | `(tactic| walk_at "mat") => `(tactic| first | ((with_reducible refine' MAt.ins ?h ?l); (case h => walk_at "wk"); (case l => rfl)) | ((with_reducible refine' log_mat ?h ?l ?l2); (case h => walk_at "wk"); (case l => decide +kernel); (case l2 => decide +kernel)))
local macro_rules | `(tactic| walk_at "isim") => `(tactic| first | ((with_reducible refine' m_isi_let_ ?t ?k ?h ?e ?_); (case t => assumption); (case e => assumption); (case h => rfl)) | ((with_reducible refine' m_isi_rk ?t ?k ?h ?e ?_); (case t => assumption); (case e => assumption); (case h => rfl)) | ((with_reducible refine' m_isi_take ?t ?k ?h ?e ?_); (case t => assumption); (case e => assumption); (case h => rfl)) | ((with_reducible refine' m_isi_put ?t ?k ?h ?e ?_); (case t => assumption); (case e => assumption); (case h => rfl)) | ((with_reducible refine' m_isi_throw ?t ?k ?h ?e ?_); (case t => assumption); (case e => assumption); (case h => rfl)) | ((with_reducible refine' m_isi_iff ?t ?k ?h ?e ?_); (case t => assumption); (case e => assumption); (case h => rfl)) | ((with_reducible refine' m_isi_eith ?t ?k ?h ?e ?_); (case t => assumption); (case e => assumption); (case h => rfl)) | ((with_reducible refine' m_isi_tryy ?t ?k ?h ?e ?_); (case t => assumption); (case e => assumption); (case h => rfl)))
local macro_rules | `(tactic| walk_at "callm") => `(tactic| walk_at "mkp")
def Lay (n : Nat) (x : D) : Prop := ∃ p, pyD x = some p ∧ p.canLay0 = true ∧ p.depth ≤ n
def LayL (n : Nat) (xs : List D) : Prop := ∃ ps, pyDs xs = some ps ∧ PyData.canLayAll0 ps = true ∧ PyData.depthAll ps ≤ n
theorem LayL.nil {n : Nat} : LayL n [] := ⟨[], rfl, rfl, Nat.zero_le _⟩
theorem LayL.cons {n : Nat} {x : D} {xs : List D} (h : Lay n x) (t : LayL n xs) : LayL n (x :: xs) := by
  obtain ⟨p, h1, h2, h3⟩ := h
  obtain ⟨ps, t1, t2, t3⟩ := t
  refine ⟨p :: ps, by rw [pyDs, h1, t1]; rfl, ?_, ?_⟩
  · show (p.canLay0 && PyData.canLayAll0 ps) = true
    rw [h2, t2]; rfl
  · show max p.depth (PyData.depthAll ps) ≤ n
    omega
theorem Lay.tup {n m : Nat} {xs : List D} (h : LayL n xs) (le : n + 1 ≤ m) : Lay m (.tup xs) := by
  obtain ⟨ps, t1, t2, t3⟩ := h
  refine ⟨.tuple ps, by rw [pyD, t1]; rfl, t2, ?_⟩
  show PyData.depthAll ps + 1 ≤ m
  omega
theorem Lay.lst {n m : Nat} {xs : List D} (h : LayL n xs) (le : n + 1 ≤ m) : Lay m (.lst xs) := by
  obtain ⟨ps, t1, t2, t3⟩ := h
  refine ⟨.list ps, by rw [pyD, t1]; rfl, t2, ?_⟩
  show PyData.depthAll ps + 1 ≤ m
  omega
theorem Lay.int {n : Nat} {i : Int} : Lay n (.raw (.int i)) := ⟨_, rfl, rfl, Nat.zero_le _⟩
theorem Lay.shaped {x : D} {n : Nat} (h : Lay n x) (hn : n ≤ 64) : ∃ p, pyD x = some p ∧ SeqAt.shaped p = true := by
  obtain ⟨p, h1, h2, h3⟩ := h
  refine ⟨p, h1, ?_⟩
  unfold SeqAt.shaped
  rw [h2, decide_eq_true (by omega)]; rfl
section
variable {d : Ad} {vs : List V} {H : Hp} {Q : VK} {E : XK}
end
end
set_option Elab.async false
set_option linter.all false
set_option maxRecDepth 100000
set_option maxHeartbeats 400000
set_option autoImplicit false
section
open PySem L2
local macro_rules | `(tactic| walk_at "set") => `(tactic| ((try simp only [List.set_cons_succ, List.set_cons_zero]); rfl))
local macro_rules | `(tactic| walk_at "sc") => `(tactic| first | assumption | decide | omega | (unfold CMul; omega) | (unfold CDiv; omega) | (unfold CPow; decide) | (unfold CDiv; decide))
local macro_rules | `(tactic| walk_at "go") => `(tactic| (repeat (first | walk_at "step" | walk_at "callx")))
local macro_rules | `(tactic| walk_at "goN") => `(tactic| (repeat (first | walk_at "step" | walk_at "callx" | ((with_reducible show ∀ p, _ = none → _); walk_at "new"))))
local macro_rules | `(tactic| walk_at "len") => `(tactic| first
  | (obtain ⟨rfl, _⟩ := h; rfl) | (obtain ⟨_, rfl, _⟩ := h; rfl) | (obtain ⟨_, _, rfl, _⟩ := h; rfl) | (obtain ⟨_, _, _, rfl, _⟩ := h; rfl) | (obtain ⟨_, _, _, _, rfl, _⟩ := h; rfl)
  | (obtain ⟨_, _, _, _, _, rfl, _⟩ := h; rfl) | (obtain ⟨_, _, _, _, _, _, rfl, _⟩ := h; rfl) | (obtain ⟨_, _, _, _, _, _, _, rfl, _⟩ := h; rfl) | (obtain ⟨_, _, _, _, _, _, _, _, rfl, _⟩ := h; rfl)
  | (obtain ⟨_, _, _, _, _, _, _, _, _, rfl, _⟩ := h; rfl) | (obtain ⟨_, _, _, _, _, _, _, _, _, _, rfl, _⟩ := h; rfl))
local macro_rules | `(tactic| walk_at "dd") => `(tactic| first | with_reducible assumption | ((with_reducible refine' DctD.own ?h); (case h => walk_at "wk")) | ((with_reducible refine' DctD.lock ?h); (case h => walk_at "wk")))
local macro_rules | `(tactic| walk_at "mat") => `(tactic| first | ((with_reducible refine' MAt.ins ?h ?l); (case h => walk_at "wk"); (case l => rfl)) | ((with_reducible refine' log_mat ?h ?l ?l2); (case h => walk_at "wk"); (case l => decide +kernel); (case l2 => decide +kernel)))
local macro_rules | `(tactic| walk_at "isim") => `(tactic| first | ((with_reducible refine' m_isi_let_ ?t ?k ?h ?e ?_); (case t => assumption); (case e => assumption); (case h => rfl)) | ((with_reducible refine' m_isi_rk ?t ?k ?h ?e ?_); (case t => assumption); (case e => assumption); (case h => rfl)) | ((with_reducible refine' m_isi_take ?t ?k ?h ?e ?_); (case t => assumption); (case e => assumption); (case h => rfl)) | ((with_reducible refine' m_isi_put ?t ?k ?h ?e ?_); (case t => assumption); (case e => assumption); (case h => rfl)) | ((with_reducible refine' m_isi_throw ?t ?k ?h ?e ?_); (case t => assumption); (case e => assumption); (case h => rfl)) | ((with_reducible refine' m_isi_iff ?t ?k ?h ?e ?_); (case t => assumption); (case e => assumption); (case h => rfl)) | ((with_reducible refine' m_isi_eith ?t ?k ?h ?e ?_); (case t => assumption); (case e => assumption); (case h => rfl)) | ((with_reducible refine' m_isi_tryy ?t ?k ?h ?e ?_); (case t => assumption); (case e => assumption); (case h => rfl)))
theorem Lay.str {n : Nat} {s : Str} (h : PyData.strOk s = true) : Lay n (.raw (.str s)) := ⟨_, rfl, h, Nat.zero_le _⟩
theorem sok_name {s : Str} (h : NameOk s) : PyData.strOk s = true := by
  unfold PyData.strOk
  rw [Array.all_eq_true]
  intro i hi
  have := h.az s.cps[i] (by simp)
  simp; omega
local macro_rules | `(tactic| walk_at "callm") => `(tactic| with_reducible refine' (we_callF (p := p_by_boxes _) ?_))
section
variable {d : Ad} {vs : List V} {H : Hp} {Q : VK} {E : XK}
end
end
set_option Elab.async false
set_option linter.all false
set_option maxRecDepth 100000
set_option maxHeartbeats 400000
set_option autoImplicit false
section
open PySem L2
local macro_rules | `(tactic| walk_at "set") => `(tactic| ((try simp only [List.set_cons_succ, List.set_cons_zero]); rfl))
local macro_rules | `(tactic| walk_at "sc") => `(tactic| first | assumption | decide | omega | (unfold CMul; omega) | (unfold CDiv; omega) | (unfold CPow; decide) | (unfold CDiv; decide))
local macro_rules | `(tactic| walk_at "go") => `(tactic| (repeat (first | walk_at "step" | walk_at "callx")))
local macro_rules | `(tactic| walk_at "goN") => `(tactic| (repeat (first | walk_at "step" | walk_at "callx" | ((with_reducible show ∀ p, _ = none → _); walk_at "new"))))
local macro_rules | `(tactic| walk_at "len") => `(tactic| first
  | (obtain ⟨rfl, _⟩ := h; rfl) | (obtain ⟨_, rfl, _⟩ := h; rfl) | (obtain ⟨_, _, rfl, _⟩ := h; rfl) | (obtain ⟨_, _, _, rfl, _⟩ := h; rfl) | (obtain ⟨_, _, _, _, rfl, _⟩ := h; rfl)
  | (obtain ⟨_, _, _, _, _, rfl, _⟩ := h; rfl) | (obtain ⟨_, _, _, _, _, _, rfl, _⟩ := h; rfl) | (obtain ⟨_, _, _, _, _, _, _, rfl, _⟩ := h; rfl) | (obtain ⟨_, _, _, _, _, _, _, _, rfl, _⟩ := h; rfl)
  | (obtain ⟨_, _, _, _, _, _, _, _, _, rfl, _⟩ := h; rfl) | (obtain ⟨_, _, _, _, _, _, _, _, _, _, rfl, _⟩ := h; rfl))
local macro_rules | `(tactic| walk_at "dd") => `(tactic| first | with_reducible assumption | ((with_reducible refine' DctD.own ?h); (case h => walk_at "wk")) | ((with_reducible refine' DctD.lock ?h); (case h => walk_at "wk")))
local macro_rules | `(tactic| walk_at "mat") => `(tactic| first | ((with_reducible refine' MAt.ins ?h ?l); (case h => walk_at "wk"); (case l => rfl)) | ((with_reducible refine' log_mat ?h ?l ?l2); (case h => walk_at "wk"); (case l => decide +kernel); (case l2 => decide +kernel)))
local macro_rules | `(tactic| walk_at "isim") => `(tactic| first | ((with_reducible refine' m_isi_let_ ?t ?k ?h ?e ?_); (case t => assumption); (case e => assumption); (case h => rfl)) | ((with_reducible refine' m_isi_rk ?t ?k ?h ?e ?_); (case t => assumption); (case e => assumption); (case h => rfl)) | ((with_reducible refine' m_isi_take ?t ?k ?h ?e ?_); (case t => assumption); (case e => assumption); (case h => rfl)) | ((with_reducible refine' m_isi_put ?t ?k ?h ?e ?_); (case t => assumption); (case e => assumption); (case h => rfl)) | ((with_reducible refine' m_isi_throw ?t ?k ?h ?e ?_); (case t => assumption); (case e => assumption); (case h => rfl)) | ((with_reducible refine' m_isi_iff ?t ?k ?h ?e ?_); (case t => assumption); (case e => assumption); (case h => rfl)) | ((with_reducible refine' m_isi_eith ?t ?k ?h ?e ?_); (case t => assumption); (case e => assumption); (case h => rfl)) | ((with_reducible refine' m_isi_tryy ?t ?k ?h ?e ?_); (case t => assumption); (case e => assumption); (case h => rfl)))
end
set_option Elab.async false
set_option linter.all false
set_option maxRecDepth 100000
set_option maxHeartbeats 400000
set_option autoImplicit false
section
open PySem L2
section
variable {K : PySem.W.Frag} {W : Wd} {Q : KD} {ds : List D}
end
end
set_option Elab.async false
set_option linter.all false
set_option maxRecDepth 100000
set_option maxHeartbeats 400000
set_option autoImplicit false
section
open PySem L2
inductive Mk where
  | eith (g : Nat) (ps : List Int) (ts : List Dm)
  | guard (n s : Str) (g : Nat) (ps : List Int) (ts : List Dm)
def Mk.goal : Mk → Nat
  | .eith g .. => g
  | .guard _ _ g .. => g
def Mk.ps : Mk → List Int
  | .eith _ p _ => p
  | .guard _ _ _ p _ => p
def Mk.ts : Mk → List Dm
  | .eith _ _ t => t
  | .guard _ _ _ _ t => t
def Mk.row : Mk → List V
  | .eith g .. => [.str "either", .int (g : Nat)]
  | .guard n s g .. => [.str "guard", .str n, .str s, .int (g : Nat)]
section
variable {rows : Rows} {bs : List Int} {F : Option AE × AS}
end
def slDf : Nat → List Int → List (Key × D)
  | _, [] => []
  | k, v :: r => (.inr (lt1 (97 + k)), .raw (.int v)) :: slDf (k + 1) r
abbrev slD (ps : List Int) : List (Key × D) := slDf 0 ps
end
set_option Elab.async false
set_option linter.all false
set_option maxRecDepth 100000
set_option maxHeartbeats 1000000
set_option autoImplicit false
section
open PySem L2
abbrev numS (v : Int) : Str := toString v
mutual
def tokP : Pt → List Str
  | .let_ s n => ["let", s, numS n]
  | .rk w s o t => [w, s, o, t]
  | .take s p => ["take", s, p]
  | .put p s => ["put", p, s]
  | .throw n s => ["throw", n, s]
  | .wait => ["wait"]
  | .iff s ps os => "if" :: s :: "(" :: (toksOf ps ++ (")" : Str) :: ("else" : Str) :: ("(" : Str) :: (toksOf os ++ [(")" : Str)]))
  | .eith ps os => "either" :: "(" :: (toksOf ps ++ (")" : Str) :: ("or" : Str) :: ("(" : Str) :: (toksOf os ++ [(")" : Str)]))
  | .tryy ps n s os => "try" :: "(" :: (toksOf ps ++ (")" : Str) :: ("on" : Str) :: n :: s :: ("(" : Str) :: (toksOf os ++ [(")" : Str)]))
def toksOf : List Pt → List Str
  | [] => []
  | p :: r => tokP p ++ tailT r
def tailT : List Pt → List Str
  | [] => []
  | p :: r => ";" :: (tokP p ++ tailT r)
end
def wr (ps : List Pt) : Str := Txt.join " " (toksOf ps)
def SegW (ws : List Str) (a : Nat) (sg : List Str) : Prop := ∀ i w, sg[i]? = some w → ws[a + i]? = some w
section
variable {ws x y : List Str} {a b : Nat} {w : Str}
theorem SegW.all : SegW ws 0 ws := fun i r hr => by rw [Nat.zero_add]; exact hr
end
structure WordOk (w : Str) : Prop where
  nb : 32 ∉ w.cps.toList
  l : w.length ≤ 20
theorem wordOk_name {n : Str} (h : NameOk n) : WordOk n := ⟨fun z => by have := h.az 32 z; omega, by have := h.l8; omega⟩
theorem lt1_list (k : Nat) : (lt1 k).cps.toList = [k] := rfl
theorem wordOk_sl {s : Str} (h : Sl s) : WordOk s := by
  obtain ⟨k, hk, rfl⟩ := h
  exact ⟨fun z => by rw [lt1_list, List.mem_singleton] at z; omega, by rw [lt1_len]; decide⟩
theorem wordOk_of {w : Str} (h : decide (32 ∉ w.cps.toList ∧ w.length ≤ 20) = true) : WordOk w := by
  have := of_decide_eq_true h
  exact ⟨this.1, this.2⟩
theorem numS_list {v : Int} (h : 0 ≤ v) : (numS v).cps.toList = TL.numL v.toNat := by
  obtain ⟨m, rfl⟩ := Int.eq_ofNat_of_zero_le h
  exact TL.tl_num m
theorem numL_le {n : Nat} (h : n < 18446744073709551616) : (TL.numL n).length ≤ 20 := TL.numL_len (k := 20) (by decide) (by omega)
theorem str_len (w : Str) : w.length = w.cps.toList.length := by simp [Str.length]
theorem numS_len {v : Int} (h : 0 ≤ v) (h2 : v < 18446744073709551616) : (numS v).length ≤ 20 := by
  rw [str_len, numS_list h]; exact numL_le (by omega)
theorem wordOk_num {v : Int} (h : 0 ≤ v) (h2 : v < 18446744073709551616) : WordOk (numS v) := ⟨by rw [numS_list h]; exact TL.numL_free (.inl (by decide)), numS_len h h2⟩
theorem five_ok {w : Str} (h : w ∈ five) : WordOk w := by
  unfold five at h
  simp only [List.mem_cons, List.not_mem_nil, or_false] at h
  rcases h with rfl | rfl | rfl | rfl | rfl <;> exact wordOk_of (by decide +kernel)
theorem wk_let : WordOk "let" := wordOk_of (by decide +kernel)
theorem wk_take : WordOk "take" := wordOk_of (by decide +kernel)
theorem wk_put : WordOk "put" := wordOk_of (by decide +kernel)
theorem wk_throw : WordOk "throw" := wordOk_of (by decide +kernel)
theorem wk_wait : WordOk "wait" := wordOk_of (by decide +kernel)
theorem wk_if : WordOk "if" := wordOk_of (by decide +kernel)
theorem wk_either : WordOk "either" := wordOk_of (by decide +kernel)
theorem wk_try : WordOk "try" := wordOk_of (by decide +kernel)
theorem wk_or : WordOk "or" := wordOk_of (by decide +kernel)
theorem wk_on : WordOk "on" := wordOk_of (by decide +kernel)
theorem wk_else : WordOk "else" := wordOk_of (by decide +kernel)
theorem wk_op : WordOk "(" := wordOk_of (by decide +kernel)
theorem wk_cl : WordOk ")" := wordOk_of (by decide +kernel)
theorem wk_semi : WordOk ";" := wordOk_of (by decide +kernel)
abbrev WsOk (l : List Str) : Prop := ∀ w ∈ l, WordOk w
theorem WsOk.nil : WsOk [] := fun w h => by cases h
theorem WsOk.cons {w : Str} {l : List Str} (h : WordOk w) (k : WsOk l) : WsOk (w :: l) := fun x hx => by
  rcases List.mem_cons.mp hx with rfl | hx
  · exact h
  · exact k x hx
theorem WsOk.app {l m : List Str} (h : WsOk l) (k : WsOk m) : WsOk (l ++ m) := fun x hx => by
  rcases List.mem_append.mp hx with hx | hx
  · exact h x hx
  · exact k x hx
mutual
theorem tokP_ok : ∀ {p : Pt}, okP p → WsOk (tokP p)
  | .let_ s n, h => .cons wk_let (.cons (wordOk_sl h.1) (.cons (wordOk_num h.2.1 h.2.2) .nil))
  | .rk w s o t, h => .cons (five_ok h.1) (.cons (wordOk_sl h.2.1) (.cons (wordOk_sl h.2.2.1) (.cons (wordOk_sl h.2.2.2) .nil)))
  | .take s p, h => .cons wk_take (.cons (wordOk_sl h.1) (.cons (wordOk_sl h.2) .nil))
  | .put p s, h => .cons wk_put (.cons (wordOk_sl h.1) (.cons (wordOk_sl h.2) .nil))
  | .throw n s, h => .cons wk_throw (.cons (wordOk_name h.1) (.cons (wordOk_sl h.2) .nil))
  | .wait, h => .cons wk_wait .nil
  | .iff s ps os, h => by rw [tokP]; exact .cons wk_if (.cons (wordOk_sl h.1) (.cons wk_op (.app (toksOf_ok h.2.1) (.cons wk_cl (.cons wk_else (.cons wk_op (.app (toksOf_ok h.2.2) (.cons wk_cl .nil))))))))
  | .eith ps os, h => by rw [tokP]; exact .cons wk_either (.cons wk_op (.app (toksOf_ok h.1) (.cons wk_cl (.cons wk_or (.cons wk_op (.app (toksOf_ok h.2) (.cons wk_cl .nil)))))))
  | .tryy ps n s os, h => by rw [tokP]; exact .cons wk_try (.cons wk_op (.app (toksOf_ok h.1) (.cons wk_cl (.cons wk_on (.cons (wordOk_name h.2.1) (.cons (wordOk_sl h.2.2.1) (.cons wk_op (.app (toksOf_ok h.2.2.2) (.cons wk_cl .nil)))))))))
theorem toksOf_ok : ∀ {ps : List Pt}, okPs ps → WsOk (toksOf ps)
  | [], _ => .nil
  | p :: r, h => by rw [toksOf]; exact .app (tokP_ok h.1) (tailT_ok h.2)
theorem tailT_ok : ∀ {ps : List Pt}, okPs ps → WsOk (tailT ps)
  | [], _ => .nil
  | p :: r, h => by rw [tailT]; exact .cons wk_semi (.app (tokP_ok h.1) (tailT_ok h.2))
end
theorem lenP_one (p : Pt) : 1 ≤ lenP p := by cases p <;> simp [lenP] <;> omega
mutual
theorem tokP_len : ∀ p : Pt, (tokP p).length + 1 ≤ 12 * lenP p
  | .let_ .. | .rk .. | .take .. | .put .. | .throw .. | .wait => by simp [tokP, lenP]
  | .iff s ps os => by have := toksOf_len ps; have := toksOf_len os; simp only [tokP, lenP, List.length_cons, List.length_append, List.length_nil]; omega
  | .eith ps os => by have := toksOf_len ps; have := toksOf_len os; simp only [tokP, lenP, List.length_cons, List.length_append, List.length_nil]; omega
  | .tryy ps n s os => by have := toksOf_len ps; have := toksOf_len os; simp only [tokP, lenP, List.length_cons, List.length_append, List.length_nil]; omega
theorem toksOf_len : ∀ ps : List Pt, (toksOf ps).length ≤ 12 * lenPs ps
  | [] => by simp [toksOf]
  | p :: r => by have := tokP_len p; have := tailT_len r; simp only [toksOf, lenPs, List.length_append]; omega
theorem tailT_len : ∀ ps : List Pt, (tailT ps).length ≤ 12 * lenPs ps
  | [] => by simp [tailT]
  | p :: r => by have := tokP_len p; have := lenP_one p; have := tailT_len r; simp only [tailT, lenPs, List.length_cons, List.length_append]; omega
end
theorem joinL_len (b : List Nat) : ∀ l : List (List Nat), (TL.joinL b l).length ≤ (l.map (·.length + b.length)).sum
  | [] => by simp [TL.joinL]
  | [x] => by simp [TL.joinL]
  | x :: y :: r => by
    have := joinL_len b (y :: r)
    simp only [TL.joinL, List.length_append, List.map_cons, List.sum_cons] at this ⊢
    omega
theorem strs_S (l : List Str) : l = (l.map (·.cps.toList)).map SX.S := by
  rw [List.map_map]
  conv => lhs; rw [← List.map_id l]
  exact List.map_congr_left fun x _ => (SX.S_tl x).symm
theorem blank_S : (" " : Str) = SX.S [32] := by decide +kernel
theorem sum_le {α : Type} {f : α → Nat} {k : Nat} : ∀ {l : List α}, (∀ x ∈ l, f x ≤ k) → (l.map f).sum ≤ k * l.length
  | [], _ => by simp
  | x :: r, h => by
    have h1 := h x (List.mem_cons_self ..)
    have h2 := sum_le (fun y hy => h y (List.mem_cons_of_mem _ hy)) (l := r)
    rw [List.map_cons, List.sum_cons, List.length_cons, Nat.mul_add]
    omega
theorem words_join {l : List Str} : Txt.join " " l = SX.S (TL.joinL [32] (l.map (·.cps.toList))) := by
  rw [blank_S]
  conv => lhs; rw [strs_S l]
  exact SX.join_S [32] _
theorem words_len {l : List Str} (ok : WsOk l) : (Txt.join " " l).length ≤ 21 * l.length := by
  rw [words_join, SX.S_len]
  refine Nat.le_trans (joinL_len _ _) ?_
  rw [List.map_map]
  refine sum_le fun w hw => ?_
  have := (ok w hw).l
  show w.cps.toList.length + 1 ≤ 21
  rw [← str_len]
  omega
end
set_option Elab.async false
set_option linter.all false
set_option maxRecDepth 100000
set_option maxHeartbeats 400000
set_option autoImplicit false
section
open PySem L2
def tAlt (t1 t2 : TE) : TE := fun σ H Q => t1 σ H Q ∨ t2 σ H Q
theorem pe_alt {X : Cx} {e : Expr} {t1 t2 : TE} (h1 : PE X e t1) (h2 : PE X e t2) : PE X e (tAlt t1 t2) := ⟨fun pins s σ H Q I h => by
  rcases h with h | h
  · exact h1.run pins s σ H Q I h
  · exact h2.run pins s σ H Q I h⟩
section
variable {K : PySem.W.Frag} {e : Env} {W : Wd} {Q : KD} {t1 t2 : TE}
theorem we_altL (q : WE K t1 e W Q) : WE K (tAlt t1 t2) e W Q := fun B σ H k s r hk => .inl (q B σ H k s r hk)
theorem we_altR (q : WE K t2 e W Q) : WE K (tAlt t1 t2) e W Q := fun B σ H k s r hk => .inr (q B σ H k s r hk)
theorem we_methO {C : Addr} {m : Str} {p : PF} {ta : TE} {tl : TA} (q : WE K ta e W fun x W1 => ∃ ns ds, x = .obj C ns ds ∧ m ∉ ns ∧ WA K tl e W1 fun ys W2 => p (x :: ys) W2 Q) : WE K (tMeth C m (lift K p) [] E0 ta tl) e W Q := fun B σ H k s r hk =>
  q B σ H _ s r fun v B1 H1 d W1 e1 s1 r1 q1 => by
    obtain ⟨ns, ds, rfl, h2, q1⟩ := q1
    cases r1 with
    | obj g hl hs =>
      rename_i a dx xs
      have lk : ∀ (ns : List Str) (xs : List V), m ∉ ns → (ns.zip xs).lookup m = none := by
        intro ns
        induction ns with
        | nil => intro xs _; rfl
        | cons n ns ih =>
          intro xs hn
          cases xs with
          | nil => rfl
          | cons x xs =>
            rw [List.zip_cons_cons, List.lookup_cons]
            cases z : m == n with
            | true => exact absurd (by rw [eq_of_beq z]; exact List.mem_cons_self ..) hn
            | false => exact ih xs fun z => hn (List.mem_cons_of_mem _ z)
      refine ⟨a, dx, _, rfl, s1.ex _ _ g, lk ns xs h2, q1 B1 σ H1 _ s1 (r.mono e1) fun vs B2 H2 ds2 W2 e2 s2 r2 q2 => ?_⟩
      rw [List.append_nil]
      exact ⟨B2, W2, _, Q, s2, .cons ((Rep.obj g hl hs).mono e2) r2, q2, fun v B' H' d W' e3 s3 r3 q3 => hk v B' H' d W' ((e1.trans e2).trans e3) s3 r3 q3⟩
end
theorem pD_let_ {d : Ad} {s : Str} {v : Int} : pD d (.let_ s v) = .obj d.cLet nLet [.str s, .int v] := by rw [pD]
theorem pD_rk {d : Ad} {w s o t : Str} : pD d (.rk w s o t) = .obj d.cReckon nReckon [.str w, .str s, .str o, .str t] := by rw [pD]
theorem pD_take {d : Ad} {s p : Str} : pD d (.take s p) = .obj d.cTake nTake [.str s, .str p] := by rw [pD]
theorem pD_put {d : Ad} {s p : Str} : pD d (.put p s) = .obj d.cPut nPut [.str p, .str s] := by rw [pD]
theorem pD_throw {d : Ad} {n s : Str} : pD d (.throw n s) = .obj d.cThrow nThrow [.str n, .str s] := by rw [pD]
theorem pD_wait {d : Ad} : pD d .wait = .obj d.cWait nWait [] := by rw [pD]
theorem pD_iff {d : Ad} {s : Str} {ps os : List Pt} : pD d (.iff s ps os) = .obj d.cIf nIf [.str s, .lst (psD d ps), .lst (psD d os)] := by rw [pD]
theorem pD_eith {d : Ad} {ps os : List Pt} : pD d (.eith ps os) = .obj d.cEither nEither [.lst (psD d ps), .lst (psD d os)] := by rw [pD]
theorem pD_tryy {d : Ad} {m s : Str} {ps os : List Pt} : pD d (.tryy ps m s os) = .obj d.cTry nTry [.lst (psD d ps), .str m, .str s, .lst (psD d os)] := by rw [pD]
def p_one (_ : Ad) : PF := fun ds W Q => ∃ x, ds = [x] ∧ Q (.int 1) W
abbrev sp_Let_long (d : Ad) : Sp := lift d.K (p_one d)
abbrev sp_Reckon_long (d : Ad) : Sp := lift d.K (p_one d)
abbrev sp_Take_long (d : Ad) : Sp := lift d.K (p_one d)
abbrev sp_Put_long (d : Ad) : Sp := lift d.K (p_one d)
abbrev sp_Throw_long (d : Ad) : Sp := lift d.K (p_one d)
abbrev sp_Wait_long (d : Ad) : Sp := lift d.K (p_one d)
def pN_list_long (n : Nat) (d : Ad) : PF := fun ds W Q => ∃ x, ds = [x] ∧ ∃ ps, SeqD W x (psD d ps) ∧ lenPs ps ≤ 10000 ∧ ndPs ps + 1 ≤ n ∧ Q (.int (lenPs ps : Nat)) W
def pN_If_long (n : Nat) (d : Ad) : PF := fun ds W Q => ∃ s ps os, ds = [pD d (.iff s ps os)] ∧ lenP (.iff s ps os) ≤ 10000 ∧ ndP (.iff s ps os) ≤ n ∧ Q (.int (lenP (.iff s ps os) : Nat)) W
def pN_Either_long (n : Nat) (d : Ad) : PF := fun ds W Q => ∃ ps os, ds = [pD d (.eith ps os)] ∧ lenP (.eith ps os) ≤ 10000 ∧ ndP (.eith ps os) ≤ n ∧ Q (.int (lenP (.eith ps os) : Nat)) W
def pN_Try_long (n : Nat) (d : Ad) : PF := fun ds W Q => ∃ ps m s os, ds = [pD d (.tryy ps m s os)] ∧ lenP (.tryy ps m s os) ≤ 10000 ∧ ndP (.tryy ps m s os) ≤ n ∧ Q (.int (lenP (.tryy ps m s os) : Nat)) W
abbrev spN_list_long (n : Nat) (d : Ad) : Sp := lift d.K (pN_list_long n d)
abbrev spN_If_long (n : Nat) (d : Ad) : Sp := lift d.K (pN_If_long n d)
abbrev spN_Either_long (n : Nat) (d : Ad) : Sp := lift d.K (pN_Either_long n d)
abbrev spN_Try_long (n : Nat) (d : Ad) : Sp := lift d.K (pN_Try_long n d)
abbrev sp_list_long (d : Ad) : Sp := spN_list_long 40 d
abbrev sp_If_long (d : Ad) : Sp := spN_If_long 40 d
abbrev sp_Either_long (d : Ad) : Sp := spN_Either_long 40 d
abbrev sp_Try_long (d : Ad) : Sp := spN_Try_long 40 d
section
variable {d : Ad} {vs : List V} {H : Hp} {Q : VK} {E : XK}
theorem no_list_long (h : spN_list_long 0 d vs H Q E) : False := by
  obtain ⟨_, _, _, _, _, _, ⟨_, _, _, _, _, h, _⟩, _⟩ := h
  omega
theorem no_If_long (h : spN_If_long 0 d vs H Q E) : False := by
  obtain ⟨_, _, _, _, _, _, ⟨_, _, _, _, _, h, _⟩, _⟩ := h
  have := ndP_pos (.iff ‹_› ‹_› ‹_›)
  simp only [ndP] at h; omega
theorem no_Either_long (h : spN_Either_long 0 d vs H Q E) : False := by
  obtain ⟨_, _, _, _, _, _, ⟨_, _, _, _, h, _⟩, _⟩ := h
  simp only [ndP] at h; omega
theorem no_Try_long (h : spN_Try_long 0 d vs H Q E) : False := by
  obtain ⟨_, _, _, _, _, _, ⟨_, _, _, _, _, _, h, _⟩, _⟩ := h
  simp only [ndP] at h; omega
end
abbrev N_Let_long : List Str := ["self"]
def t_Let_long (d : Ad) : TS :=
  (tRet (tC (.int 1)))
abbrev N_Reckon_long : List Str := ["self"]
def t_Reckon_long (d : Ad) : TS :=
  (tRet (tC (.int 1)))
abbrev N_Take_long : List Str := ["self"]
def t_Take_long (d : Ad) : TS :=
  (tRet (tC (.int 1)))
abbrev N_Put_long : List Str := ["self"]
def t_Put_long (d : Ad) : TS :=
  (tRet (tC (.int 1)))
abbrev N_Throw_long : List Str := ["self"]
def t_Throw_long (d : Ad) : TS :=
  (tRet (tC (.int 1)))
abbrev N_Wait_long : List Str := ["self"]
def t_Wait_long (d : Ad) : TS :=
  (tRet (tC (.int 1)))
abbrev N_list_long : List Str := ["parts", "part"]
def t_list_long (n : Nat) (d : Ad) : TS :=
  (tRet (tCB (rSum d.K) (tCons (tLc (iList d.K (tVar 0)) (gName 1) tYes (tAlt (tMeth d.cLet "long" (sp_Let_long d) [] E0 (tVar 1) tNil) (tAlt (tMeth d.cReckon "long" (sp_Reckon_long d) [] E0 (tVar 1) tNil) (tAlt (tMeth d.cTake "long" (sp_Take_long d) [] E0 (tVar 1) tNil) (tAlt (tMeth d.cPut "long" (sp_Put_long d) [] E0 (tVar 1) tNil) (tAlt (tMeth d.cIf "long" (spN_If_long n d) [] E0 (tVar 1) tNil) (tAlt (tMeth d.cEither "long" (spN_Either_long n d) [] E0 (tVar 1) tNil) (tAlt (tMeth d.cTry "long" (spN_Try_long n d) [] E0 (tVar 1) tNil) (tAlt (tMeth d.cThrow "long" (sp_Throw_long d) [] E0 (tVar 1) tNil) (tMeth d.cWait "long" (sp_Wait_long d) [] E0 (tVar 1) tNil))))))))) [1]) tNil)))
abbrev N_If_long : List Str := ["self"]
def t_If_long (n : Nat) (d : Ad) : TS :=
  (tRet (aAdd (aAdd (tC (.int 2)) (tCall (spN_list_long n d) [] E0 (tCons (tFld d.K (tVar 0) "parts") tNil))) (tCall (spN_list_long n d) [] E0 (tCons (tFld d.K (tVar 0) "others") tNil))))
abbrev N_Either_long : List Str := ["self"]
def t_Either_long (n : Nat) (d : Ad) : TS :=
  (tRet (aAdd (aAdd (tC (.int 3)) (tCall (spN_list_long n d) [] E0 (tCons (tFld d.K (tVar 0) "parts") tNil))) (tCall (spN_list_long n d) [] E0 (tCons (tFld d.K (tVar 0) "others") tNil))))
abbrev N_Try_long : List Str := ["self"]
def t_Try_long (n : Nat) (d : Ad) : TS :=
  (tRet (aAdd (aAdd (tC (.int 3)) (tCall (spN_list_long n d) [] E0 (tCons (tFld d.K (tVar 0) "parts") tNil))) (tCall (spN_list_long n d) [] E0 (tCons (tFld d.K (tVar 0) "others") tNil))))
local macro_rules | `(tactic| walk_at "set") => `(tactic| ((try simp only [List.set_cons_succ, List.set_cons_zero]); rfl))
local macro_rules | `(tactic| walk_at "sc") => `(tactic| first | assumption | decide | omega | (unfold CMul; omega) | (unfold CDiv; omega) | (unfold CPow; decide) | (unfold CDiv; decide))
local macro_rules | `(tactic| walk_at "go") => `(tactic| (repeat (first | walk_at "step" | walk_at "callx")))
local macro_rules | `(tactic| walk_at "goN") => `(tactic| (repeat (first | walk_at "step" | walk_at "callx" | ((with_reducible show ∀ p, _ = none → _); walk_at "new"))))
local macro_rules | `(tactic| walk_at "len") => `(tactic| first
  | (obtain ⟨rfl, _⟩ := h; rfl) | (obtain ⟨_, rfl, _⟩ := h; rfl) | (obtain ⟨_, _, rfl, _⟩ := h; rfl) | (obtain ⟨_, _, _, rfl, _⟩ := h; rfl) | (obtain ⟨_, _, _, _, rfl, _⟩ := h; rfl)
  | (obtain ⟨_, _, _, _, _, rfl, _⟩ := h; rfl) | (obtain ⟨_, _, _, _, _, _, rfl, _⟩ := h; rfl) | (obtain ⟨_, _, _, _, _, _, _, rfl, _⟩ := h; rfl) | (obtain ⟨_, _, _, _, _, _, _, _, rfl, _⟩ := h; rfl)
  | (obtain ⟨_, _, _, _, _, _, _, _, _, rfl, _⟩ := h; rfl) | (obtain ⟨_, _, _, _, _, _, _, _, _, _, rfl, _⟩ := h; rfl))
local macro_rules | `(tactic| walk_at "dd") => `(tactic| first | with_reducible assumption | ((with_reducible refine' DctD.own ?h); (case h => walk_at "wk")) | ((with_reducible refine' DctD.lock ?h); (case h => walk_at "wk")))
local macro_rules | `(tactic| walk_at "mat") => `(tactic| first | ((with_reducible refine' MAt.ins ?h ?l); (case h => walk_at "wk"); (case l => rfl)) | ((with_reducible refine' log_mat ?h ?l ?l2); (case h => walk_at "wk"); (case l => decide +kernel); (case l2 => decide +kernel)))
local macro_rules | `(tactic| walk_at "isim") => `(tactic| first | ((with_reducible refine' m_isi_let_ ?t ?k ?h ?e ?_); (case t => assumption); (case e => assumption); (case h => rfl)) | ((with_reducible refine' m_isi_rk ?t ?k ?h ?e ?_); (case t => assumption); (case e => assumption); (case h => rfl)) | ((with_reducible refine' m_isi_take ?t ?k ?h ?e ?_); (case t => assumption); (case e => assumption); (case h => rfl)) | ((with_reducible refine' m_isi_put ?t ?k ?h ?e ?_); (case t => assumption); (case e => assumption); (case h => rfl)) | ((with_reducible refine' m_isi_throw ?t ?k ?h ?e ?_); (case t => assumption); (case e => assumption); (case h => rfl)) | ((with_reducible refine' m_isi_iff ?t ?k ?h ?e ?_); (case t => assumption); (case e => assumption); (case h => rfl)) | ((with_reducible refine' m_isi_eith ?t ?k ?h ?e ?_); (case t => assumption); (case e => assumption); (case h => rfl)) | ((with_reducible refine' m_isi_tryy ?t ?k ?h ?e ?_); (case t => assumption); (case e => assumption); (case h => rfl)))
local macro_rules | `(tactic| walk_at "callm") => `(tactic| fail)
section
variable {d : Ad} {vs : List V} {H : Hp} {Q : VK} {E : XK}
theorem pure_Let_long (h : sp_Let_long d vs H Q E) : t_Let_long d { nx := fun _ H' => Q .non H', rt := Q } (start N_Let_long vs) H := by
  refine lift_pure h fun ds W Q hp => ?_
  obtain ⟨x, rfl, k⟩ := hp
  show WS d.K (t_Let_long d) [some x] W _
  unfold t_Let_long
  walk_at "mgo"
  exact ret_dat (Sub.refl _) k
theorem pure_Reckon_long (h : sp_Reckon_long d vs H Q E) : t_Reckon_long d { nx := fun _ H' => Q .non H', rt := Q } (start N_Reckon_long vs) H := pure_Let_long h
theorem pure_Take_long (h : sp_Take_long d vs H Q E) : t_Take_long d { nx := fun _ H' => Q .non H', rt := Q } (start N_Take_long vs) H := pure_Let_long h
theorem pure_Put_long (h : sp_Put_long d vs H Q E) : t_Put_long d { nx := fun _ H' => Q .non H', rt := Q } (start N_Put_long vs) H := pure_Let_long h
theorem pure_Throw_long (h : sp_Throw_long d vs H Q E) : t_Throw_long d { nx := fun _ H' => Q .non H', rt := Q } (start N_Throw_long vs) H := pure_Let_long h
theorem pure_Wait_long (h : sp_Wait_long d vs H Q E) : t_Wait_long d { nx := fun _ H' => Q .non H', rt := Q } (start N_Wait_long vs) H := pure_Let_long h
theorem lenPs_sum (ps : List Pt) : ((ps.map fun p => ((lenP p : Nat) : Int))).sum = ((lenPs ps : Nat) : Int) := by
  induction ps with
  | nil => simp [lenPs]
  | cons p r ih => rw [List.map_cons, List.sum_cons, ih, lenPs]; omega
theorem pure_list_long {n : Nat} (h : spN_list_long (n + 1) d vs H Q E) : t_list_long n d { nx := fun _ H' => Q .non H', rt := Q } (start N_list_long vs) H := by
  refine lift_pure h fun ds W Q hp => ?_
  obtain ⟨x, rfl, ps, hx, hl, hn, k⟩ := hp
  show WS d.K (t_list_long n d) [some x, none] W _
  unfold t_list_long
  walk_at "mgo"
  refine ⟨?_, ps.map fun p => .int ((lenP p : Nat) : Int), ?_, ?_, ?_⟩
  · have := len_lenP ps
    show (psD d ps).length ≤ 1000000
    rw [psD_len]; omega
  · show (List.map _ ps).length = (psD d ps).length
    rw [psD_len, List.length_map]
  · intro q i y L hq hi hy
    obtain ⟨p, hp, rfl⟩ := psD_get hy
    have h2 := lenP_mem hp
    have h3 := ndP_mem hp
    have fin : ∀ j : Int, j = ((lenP p : Nat) : Int) → FzQ (SubQ fun y W4 => (ps.map fun p => D.int ((lenP p : Nat) : Int))[i]? = some y ∧ W4 = wset W q (.lst L)) (.int j) (wset W q (.lst L)) := fun j e => by
      subst e
      exact fz_id (sub_q (Sub.refl _) ⟨by rw [List.getElem?_map, hp]; rfl, rfl⟩)
    walk_at "mgo"
    cases p with
    | let_ s v =>
      refine we_altL ?_
      refine we_methO ?_
      walk_at "mgo"
      refine ⟨_, _, pD_let_, by decide +kernel, ?_⟩
      walk_at "mgo"
      refine ⟨_, rfl, ?_⟩
      exact fin _ (by simp [lenP])
    | rk w s o t =>
      refine we_altR <| we_altL ?_
      refine we_methO ?_
      walk_at "mgo"
      refine ⟨_, _, pD_rk, by decide +kernel, ?_⟩
      walk_at "mgo"
      refine ⟨_, rfl, ?_⟩
      exact fin _ (by simp [lenP])
    | take s p =>
      refine we_altR <| we_altR <| we_altL ?_
      refine we_methO ?_
      walk_at "mgo"
      refine ⟨_, _, pD_take, by decide +kernel, ?_⟩
      walk_at "mgo"
      refine ⟨_, rfl, ?_⟩
      exact fin _ (by simp [lenP])
    | put p s =>
      refine we_altR <| we_altR <| we_altR <| we_altL ?_
      refine we_methO ?_
      walk_at "mgo"
      refine ⟨_, _, pD_put, by decide +kernel, ?_⟩
      walk_at "mgo"
      refine ⟨_, rfl, ?_⟩
      exact fin _ (by simp [lenP])
    | iff s qs os =>
      refine we_altR <| we_altR <| we_altR <| we_altR <| we_altL ?_
      refine we_methO ?_
      walk_at "mgo"
      refine ⟨_, _, pD_iff, by decide +kernel, ?_⟩
      walk_at "mgo"
      refine ⟨s, qs, os, rfl, by omega, by omega, ?_⟩
      exact fin _ (by simp [lenP])
    | eith qs os =>
      refine we_altR <| we_altR <| we_altR <| we_altR <| we_altR <| we_altL ?_
      refine we_methO ?_
      walk_at "mgo"
      refine ⟨_, _, pD_eith, by decide +kernel, ?_⟩
      walk_at "mgo"
      refine ⟨qs, os, rfl, by omega, by omega, ?_⟩
      exact fin _ (by simp [lenP])
    | tryy qs m s os =>
      refine we_altR <| we_altR <| we_altR <| we_altR <| we_altR <| we_altR <| we_altL ?_
      refine we_methO ?_
      walk_at "mgo"
      refine ⟨_, _, pD_tryy, by decide +kernel, ?_⟩
      walk_at "mgo"
      refine ⟨qs, m, s, os, rfl, by omega, by omega, ?_⟩
      exact fin _ (by simp [lenP])
    | throw m s =>
      refine we_altR <| we_altR <| we_altR <| we_altR <| we_altR <| we_altR <| we_altR <| we_altL ?_
      refine we_methO ?_
      walk_at "mgo"
      refine ⟨_, _, pD_throw, by decide +kernel, ?_⟩
      walk_at "mgo"
      refine ⟨_, rfl, ?_⟩
      exact fin _ (by simp [lenP])
    | wait =>
      refine we_altR <| we_altR <| we_altR <| we_altR <| we_altR <| we_altR <| we_altR <| we_altR ?_
      refine we_methO ?_
      walk_at "mgo"
      refine ⟨_, _, pD_wait, by decide +kernel, ?_⟩
      walk_at "mgo"
      refine ⟨_, rfl, ?_⟩
      exact fin _ (by simp [lenP])
  · intro q hq
    refine fz_new hq ?_
    walk_at "mgo"
    rw [show List.map (fun p => D.int ((lenP p : Nat) : Int)) ps = (ps.map fun p => ((lenP p : Nat) : Int)).map D.int by rw [List.map_map]; rfl]
    refine d_sum (SeqD.lst _) ?_
    rw [lenPs_sum]
    exact ret_dat (Sub.refl _) k
theorem pure_If_long (T : TParts d) {n : Nat} (h : spN_If_long (n + 1) d vs H Q E) : t_If_long n d { nx := fun _ H' => Q .non H', rt := Q } (start N_If_long vs) H := by
  refine lift_pure h fun ds W Q hp => ?_
  obtain ⟨s, ps, os, rfl, hl, hn, k⟩ := hp
  have c : Cls d.K d.cIf := T.cl .iff
  have n1 : NoAttr d.K d.cIf "parts" := T.na .iff _ (by simp [atK])
  have n2 : NoAttr d.K d.cIf "others" := T.na .iff _ (by simp [atK])
  have e : ((lenP (.iff s ps os) : Nat) : Int) = 2 + (lenPs ps : Nat) + (lenPs os : Nat) := by simp only [lenP]; omega
  rw [e] at k
  simp only [lenP, ndP] at hl hn
  rw [pD]
  show WS d.K (t_If_long n d) [some (.obj d.cIf nIf [.str s, .lst (psD d ps), .lst (psD d os)])] W _
  unfold t_If_long
  walk_at "mgo"
  refine ⟨_, rfl, ps, SeqD.lst _, by omega, by omega, ?_⟩
  walk_at "mgo"
  refine ⟨_, rfl, os, SeqD.lst _, by omega, by omega, ?_⟩
  walk_at "mgo"
  exact ret_dat (Sub.refl _) k
theorem pure_Either_long (T : TParts d) {n : Nat} (h : spN_Either_long (n + 1) d vs H Q E) : t_Either_long n d { nx := fun _ H' => Q .non H', rt := Q } (start N_Either_long vs) H := by
  refine lift_pure h fun ds W Q hp => ?_
  obtain ⟨ps, os, rfl, hl, hn, k⟩ := hp
  have c : Cls d.K d.cEither := T.cl .eith
  have n1 : NoAttr d.K d.cEither "parts" := T.na .eith _ (by simp [atK])
  have n2 : NoAttr d.K d.cEither "others" := T.na .eith _ (by simp [atK])
  have e : ((lenP (.eith ps os) : Nat) : Int) = 3 + (lenPs ps : Nat) + (lenPs os : Nat) := by simp only [lenP]; omega
  rw [e] at k
  simp only [lenP, ndP] at hl hn
  rw [pD]
  show WS d.K (t_Either_long n d) [some (.obj d.cEither nEither [.lst (psD d ps), .lst (psD d os)])] W _
  unfold t_Either_long
  walk_at "mgo"
  refine ⟨_, rfl, ps, SeqD.lst _, by omega, by omega, ?_⟩
  walk_at "mgo"
  refine ⟨_, rfl, os, SeqD.lst _, by omega, by omega, ?_⟩
  walk_at "mgo"
  exact ret_dat (Sub.refl _) k
theorem pure_Try_long (T : TParts d) {n : Nat} (h : spN_Try_long (n + 1) d vs H Q E) : t_Try_long n d { nx := fun _ H' => Q .non H', rt := Q } (start N_Try_long vs) H := by
  refine lift_pure h fun ds W Q hp => ?_
  obtain ⟨ps, m, s, os, rfl, hl, hn, k⟩ := hp
  have c : Cls d.K d.cTry := T.cl .tryy
  have n1 : NoAttr d.K d.cTry "parts" := T.na .tryy _ (by simp [atK])
  have n2 : NoAttr d.K d.cTry "others" := T.na .tryy _ (by simp [atK])
  have e : ((lenP (.tryy ps m s os) : Nat) : Int) = 3 + (lenPs ps : Nat) + (lenPs os : Nat) := by simp only [lenP]; omega
  rw [e] at k
  simp only [lenP, ndP] at hl hn
  rw [pD]
  show WS d.K (t_Try_long n d) [some (.obj d.cTry nTry [.lst (psD d ps), .str m, .str s, .lst (psD d os)])] W _
  unfold t_Try_long
  walk_at "mgo"
  refine ⟨_, rfl, ps, SeqD.lst _, by omega, by omega, ?_⟩
  walk_at "mgo"
  refine ⟨_, rfl, os, SeqD.lst _, by omega, by omega, ?_⟩
  walk_at "mgo"
  exact ret_dat (Sub.refl _) k
end
end
set_option Elab.async false
set_option linter.all false
set_option maxRecDepth 100000
set_option maxHeartbeats 400000
set_option autoImplicit false
section
open PySem L2
local macro_rules | `(tactic| walk_at "set") => `(tactic| ((try simp only [List.set_cons_succ, List.set_cons_zero]); rfl))
local macro_rules | `(tactic| walk_at "sc") => `(tactic| first | assumption | decide | omega | (unfold CMul; omega) | (unfold CDiv; omega) | (unfold CPow; decide) | (unfold CDiv; decide))
local macro_rules | `(tactic| walk_at "go") => `(tactic| (repeat (first | walk_at "step" | walk_at "callx")))
local macro_rules | `(tactic| walk_at "goN") => `(tactic| (repeat (first | walk_at "step" | walk_at "callx" | ((with_reducible show ∀ p, _ = none → _); walk_at "new"))))
local macro_rules | `(tactic| walk_at "len") => `(tactic| first
  | (obtain ⟨rfl, _⟩ := h; rfl) | (obtain ⟨_, rfl, _⟩ := h; rfl) | (obtain ⟨_, _, rfl, _⟩ := h; rfl) | (obtain ⟨_, _, _, rfl, _⟩ := h; rfl) | (obtain ⟨_, _, _, _, rfl, _⟩ := h; rfl)
  | (obtain ⟨_, _, _, _, _, rfl, _⟩ := h; rfl) | (obtain ⟨_, _, _, _, _, _, rfl, _⟩ := h; rfl) | (obtain ⟨_, _, _, _, _, _, _, rfl, _⟩ := h; rfl) | (obtain ⟨_, _, _, _, _, _, _, _, rfl, _⟩ := h; rfl)
  | (obtain ⟨_, _, _, _, _, _, _, _, _, rfl, _⟩ := h; rfl) | (obtain ⟨_, _, _, _, _, _, _, _, _, _, rfl, _⟩ := h; rfl))
local macro_rules | `(tactic| walk_at "dd") => `(tactic| first | with_reducible assumption | ((with_reducible refine' DctD.own ?h); (case h => walk_at "wk")) | ((with_reducible refine' DctD.lock ?h); (case h => walk_at "wk")))
local macro_rules | `(tactic| walk_at "mat") => `(tactic| first | ((with_reducible refine' MAt.ins ?h ?l); (case h => walk_at "wk"); (case l => rfl)) | ((with_reducible refine' log_mat ?h ?l ?l2); (case h => walk_at "wk"); (case l => decide +kernel); (case l2 => decide +kernel)))
local macro_rules | `(tactic| walk_at "isim") => `(tactic| first | ((with_reducible refine' m_isi_let_ ?t ?k ?h ?e ?_); (case t => assumption); (case e => assumption); (case h => rfl)) | ((with_reducible refine' m_isi_rk ?t ?k ?h ?e ?_); (case t => assumption); (case e => assumption); (case h => rfl)) | ((with_reducible refine' m_isi_take ?t ?k ?h ?e ?_); (case t => assumption); (case e => assumption); (case h => rfl)) | ((with_reducible refine' m_isi_put ?t ?k ?h ?e ?_); (case t => assumption); (case e => assumption); (case h => rfl)) | ((with_reducible refine' m_isi_throw ?t ?k ?h ?e ?_); (case t => assumption); (case e => assumption); (case h => rfl)) | ((with_reducible refine' m_isi_iff ?t ?k ?h ?e ?_); (case t => assumption); (case e => assumption); (case h => rfl)) | ((with_reducible refine' m_isi_eith ?t ?k ?h ?e ?_); (case t => assumption); (case e => assumption); (case h => rfl)) | ((with_reducible refine' m_isi_tryy ?t ?k ?h ?e ?_); (case t => assumption); (case e => assumption); (case h => rfl)))
local macro_rules | `(tactic| walk_at "callm") => `(tactic| walk_at "mkp")
section
variable {d : Ad} {vs : List V} {H : Hp} {Q : VK} {E : XK}
end
end
set_option Elab.async false
set_option linter.all false
set_option maxRecDepth 100000
set_option maxHeartbeats 400000
set_option autoImplicit false
section
open PySem L2
section
variable {d : Ad} {vs : List V} {H : Hp} {Q : VK} {E : XK}
end
local macro_rules | `(tactic| walk_at "set") => `(tactic| ((try simp only [List.set_cons_succ, List.set_cons_zero]); rfl))
local macro_rules | `(tactic| walk_at "sc") => `(tactic| first | assumption | decide | omega | (unfold CMul; omega) | (unfold CDiv; omega) | (unfold CPow; decide) | (unfold CDiv; decide))
local macro_rules | `(tactic| walk_at "go") => `(tactic| (repeat (first | walk_at "step" | walk_at "callx")))
local macro_rules | `(tactic| walk_at "goN") => `(tactic| (repeat (first | walk_at "step" | walk_at "callx" | ((with_reducible show ∀ p, _ = none → _); walk_at "new"))))
local macro_rules | `(tactic| walk_at "len") => `(tactic| first
  | (obtain ⟨rfl, _⟩ := h; rfl) | (obtain ⟨_, rfl, _⟩ := h; rfl) | (obtain ⟨_, _, rfl, _⟩ := h; rfl) | (obtain ⟨_, _, _, rfl, _⟩ := h; rfl) | (obtain ⟨_, _, _, _, rfl, _⟩ := h; rfl)
  | (obtain ⟨_, _, _, _, _, rfl, _⟩ := h; rfl) | (obtain ⟨_, _, _, _, _, _, rfl, _⟩ := h; rfl) | (obtain ⟨_, _, _, _, _, _, _, rfl, _⟩ := h; rfl) | (obtain ⟨_, _, _, _, _, _, _, _, rfl, _⟩ := h; rfl)
  | (obtain ⟨_, _, _, _, _, _, _, _, _, rfl, _⟩ := h; rfl) | (obtain ⟨_, _, _, _, _, _, _, _, _, _, rfl, _⟩ := h; rfl))
local macro_rules | `(tactic| walk_at "dd") => `(tactic| first | with_reducible assumption | ((with_reducible refine' DctD.own ?h); (case h => walk_at "wk")) | ((with_reducible refine' DctD.lock ?h); (case h => walk_at "wk")))
local macro_rules | `(tactic| walk_at "mat") => `(tactic| first | ((with_reducible refine' MAt.ins ?h ?l); (case h => walk_at "wk"); (case l => rfl)) | ((with_reducible refine' log_mat ?h ?l ?l2); (case h => walk_at "wk"); (case l => decide +kernel); (case l2 => decide +kernel)))
local macro_rules | `(tactic| walk_at "isim") => `(tactic| first | ((with_reducible refine' m_isi_let_ ?t ?k ?h ?e ?_); (case t => assumption); (case e => assumption); (case h => rfl)) | ((with_reducible refine' m_isi_rk ?t ?k ?h ?e ?_); (case t => assumption); (case e => assumption); (case h => rfl)) | ((with_reducible refine' m_isi_take ?t ?k ?h ?e ?_); (case t => assumption); (case e => assumption); (case h => rfl)) | ((with_reducible refine' m_isi_put ?t ?k ?h ?e ?_); (case t => assumption); (case e => assumption); (case h => rfl)) | ((with_reducible refine' m_isi_throw ?t ?k ?h ?e ?_); (case t => assumption); (case e => assumption); (case h => rfl)) | ((with_reducible refine' m_isi_iff ?t ?k ?h ?e ?_); (case t => assumption); (case e => assumption); (case h => rfl)) | ((with_reducible refine' m_isi_eith ?t ?k ?h ?e ?_); (case t => assumption); (case e => assumption); (case h => rfl)) | ((with_reducible refine' m_isi_tryy ?t ?k ?h ?e ?_); (case t => assumption); (case e => assumption); (case h => rfl)))
local macro_rules | `(tactic| walk_at "callm") => `(tactic| walk_at "mkp")
section
variable {d : Ad} {vs : List V} {H : Hp} {Q : VK} {E : XK}
end
end
set_option Elab.async false
set_option linter.all false
set_option maxRecDepth 100000
set_option maxHeartbeats 400000
set_option autoImplicit false
section
open PySem L2
def wl (l : List Str) : List Nat := TL.joinL [32] (l.map (·.cps.toList))
theorem wl_join (l : List Str) : Txt.join " " l = SX.S (wl l) := words_join
theorem joinL_app {s : List Nat} : ∀ {a b : List (List Nat)}, a ≠ [] → b ≠ [] → TL.joinL s (a ++ b) = TL.joinL s a ++ (s ++ TL.joinL s b)
  | [], _, h, _ => absurd rfl h
  | [x], b, _, h => by
    cases b with
    | nil => exact absurd rfl h
    | cons y r => rfl
  | x :: y :: r, b, _, h => by
    show x ++ (s ++ TL.joinL s (y :: r ++ b)) = x ++ (s ++ TL.joinL s (y :: r)) ++ (s ++ TL.joinL s b)
    rw [joinL_app (a := y :: r) (by simp) h]
    simp [List.append_assoc]
theorem wl_app {a b : List Str} (ha : a ≠ []) (hb : b ≠ []) : wl (a ++ b) = wl a ++ (32 :: wl b) := by
  unfold wl
  rw [List.map_append, joinL_app (by simpa using ha) (by simpa using hb)]
  rfl
theorem wl_one (w : Str) : wl [w] = w.cps.toList := rfl
theorem wl_flat : ∀ {ls : List (List Str)}, (∀ l ∈ ls, l ≠ []) → TL.joinL [32] (ls.map wl) = wl ls.flatten
  | [], _ => rfl
  | [l], _ => by rw [List.flatten_cons, List.flatten_nil, List.append_nil]; rfl
  | l :: m :: r, h => by
    have ih := wl_flat (ls := m :: r) fun x hx => h x (List.mem_cons_of_mem _ hx)
    have hm := h m (by simp)
    rw [List.map_cons, List.flatten_cons, wl_app (h l (by simp)) (by rw [List.flatten_cons]; exact fun z => hm (List.append_eq_nil_iff.mp z).1), ← ih]
    rfl
theorem join_flat {ls : List (List Str)} (h : ∀ l ∈ ls, l ≠ []) : Txt.join " " (ls.map (Txt.join " ")) = Txt.join " " ls.flatten := by
  rw [wl_join ls.flatten, ← wl_flat h, blank_S]
  have e : ls.map (Txt.join (SX.S [32])) = (ls.map wl).map SX.S := by
    rw [List.map_map]
    refine List.map_congr_left fun l _ => ?_
    rw [← blank_S]; exact wl_join l
  rw [e, SX.join_S]
abbrev wrP (p : Pt) : Str := Txt.join " " (tokP p)
theorem tokP_ne (p : Pt) : tokP p ≠ [] := by cases p <;> (rw [tokP]; exact fun z => by cases z)
theorem toks_two (p q : Pt) (r : List Pt) : toksOf (p :: q :: r) = tokP p ++ ([(";" : Str)] ++ toksOf (q :: r)) := by
  rw [toksOf, tailT, toksOf]; rfl
theorem toksOf_ne {ps : List Pt} (h : ps ≠ []) : toksOf ps ≠ [] := by
  cases ps with
  | nil => exact absurd rfl h
  | cons p r => rw [toksOf]; exact fun z => tokP_ne p (List.append_eq_nil_iff.mp z).1
theorem semi_S : (" ; " : Str) = SX.S [32, 59, 32] := by decide +kernel
theorem wl_parts : ∀ ps : List Pt, TL.joinL [32, 59, 32] (ps.map fun p => wl (tokP p)) = wl (toksOf ps)
  | [] => rfl
  | [p] => by rw [toksOf, tailT, List.append_nil]; rfl
  | p :: q :: r => by
    rw [toks_two, wl_app (tokP_ne p) (by simp), wl_app (by simp) (toksOf_ne (by simp)), ← wl_parts (q :: r)]
    rfl
theorem join_parts (ps : List Pt) : Txt.join " ; " (ps.map wrP) = wr ps := by
  show _ = Txt.join " " _
  rw [wl_join, ← wl_parts, semi_S]
  have e : ps.map wrP = (ps.map fun p => wl (tokP p)).map SX.S := by
    rw [List.map_map]
    exact List.map_congr_left fun p _ => wl_join _
  rw [e, SX.join_S]
def inT (ps : List Pt) : List Str := "(" :: (toksOf ps ++ [(")" : Str)])
abbrev wrIn (ps : List Pt) : Str := Txt.join " " (inT ps)
theorem inT_ne (ps : List Pt) : inT ps ≠ [] := by simp [inT]
theorem tok_iff (s : Str) (ps os : List Pt) : tokP (.iff s ps os) = ([[("if" : Str)], [s], inT ps, [("else" : Str)], inT os] : List (List Str)).flatten := by rw [tokP]; unfold inT; simp
theorem tok_eith (ps os : List Pt) : tokP (.eith ps os) = ([[("either" : Str)], inT ps, [("or" : Str)], inT os] : List (List Str)).flatten := by rw [tokP]; unfold inT; simp
theorem tok_tryy (m s : Str) (ps os : List Pt) : tokP (.tryy ps m s os) = ([[("try" : Str)], inT ps, [("on" : Str)], [m], [s], inT os] : List (List Str)).flatten := by rw [tokP]; unfold inT; simp
theorem join_one (w : Str) : Txt.join " " [w] = w := by rw [wl_join, wl_one, SX.S_tl]
theorem join_iff (s : Str) (ps os : List Pt) : Txt.join " " ["if", s, wrIn ps, "else", wrIn os] = wrP (.iff s ps os) := by
  show _ = Txt.join " " _
  rw [tok_iff, ← join_flat (by
    intro l hl
    simp only [List.mem_cons, List.not_mem_nil, or_false] at hl
    rcases hl with rfl | rfl | rfl | rfl | rfl
    · simp
    · simp
    · exact inT_ne _
    · simp
    · exact inT_ne _)]
  simp only [List.map_cons, List.map_nil, join_one]
theorem join_eith (ps os : List Pt) : Txt.join " " ["either", wrIn ps, "or", wrIn os] = wrP (.eith ps os) := by
  show _ = Txt.join " " _
  rw [tok_eith, ← join_flat (by
    intro l hl
    simp only [List.mem_cons, List.not_mem_nil, or_false] at hl
    rcases hl with rfl | rfl | rfl | rfl
    · simp
    · exact inT_ne _
    · simp
    · exact inT_ne _)]
  simp only [List.map_cons, List.map_nil, join_one]
theorem join_tryy (m s : Str) (ps os : List Pt) : Txt.join " " ["try", wrIn ps, "on", m, s, wrIn os] = wrP (.tryy ps m s os) := by
  show _ = Txt.join " " _
  rw [tok_tryy, ← join_flat (by
    intro l hl
    simp only [List.mem_cons, List.not_mem_nil, or_false] at hl
    rcases hl with rfl | rfl | rfl | rfl | rfl | rfl
    · simp
    · exact inT_ne _
    · simp
    · simp
    · simp
    · exact inT_ne _)]
  simp only [List.map_cons, List.map_nil, join_one]
theorem join_in {ps : List Pt} (h : ps ≠ []) : Txt.join " " ["(", wr ps, ")"] = wrIn ps := by
  show _ = Txt.join " " _
  have e : inT ps = ([[("(" : Str)], toksOf ps, [(")" : Str)]] : List (List Str)).flatten := by unfold inT; simp
  rw [e, ← join_flat (by
    intro l hl
    simp only [List.mem_cons, List.not_mem_nil, or_false] at hl
    rcases hl with rfl | rfl | rfl
    · simp
    · exact toksOf_ne h
    · simp)]
  simp only [List.map_cons, List.map_nil, join_one]
  rfl
theorem join_in0 : Txt.join " " ["(", ")"] = wrIn [] := rfl
theorem wrP_len {p : Pt} (ok : okP p) : (wrP p).length ≤ 252 * lenP p := by
  have := words_len (tokP_ok ok); have := tokP_len p; unfold wrP; omega
theorem wr_len {ps : List Pt} (ok : okPs ps) : (wr ps).length ≤ 252 * lenPs ps := by
  have := words_len (toksOf_ok ok); have := toksOf_len ps; unfold wr; omega
theorem inT_ok {ps : List Pt} (ok : okPs ps) : WsOk (inT ps) := .cons wk_op (.app (toksOf_ok ok) (.cons wk_cl .nil))
theorem wrIn_len {ps : List Pt} (ok : okPs ps) : (wrIn ps).length ≤ 252 * lenPs ps + 42 := by
  have := words_len (inT_ok ok); have := toksOf_len ps
  unfold wrIn
  unfold inT at *
  simp only [List.length_cons, List.length_append, List.length_nil] at *
  omega
theorem sl_len {s : Str} (h : Sl s) : s.length = 1 := by
  obtain ⟨k, _, rfl⟩ := h; rfl
theorem five_len {w : Str} (h : w ∈ five) : w.length ≤ 20 := (five_ok h).l
theorem join_ok {ys : List Str} (h : ∀ w ∈ ys, w.length ≤ 1000000) (l : ys.length ≤ 8) : (ys.map (·.length)).sum + ys.length * (" " : Str).length ≤ 16777216 := by
  have h1 := sum_le (f := fun w : Str => w.length) (k := 1000000) h
  rw [show (" " : Str).length = 1 from by decide +kernel]
  omega
theorem all_nil {P : Str → Prop} : ∀ w ∈ ([] : List Str), P w := fun w h => by cases h
theorem all_cons {P : Str → Prop} {x : Str} {l : List Str} (h : P x) (k : ∀ w ∈ l, P w) : ∀ w ∈ x :: l, P w := fun w hw => by
  rcases List.mem_cons.mp hw with rfl | hw
  · exact h
  · exact k w hw
theorem wk_le {w : Str} (h : WordOk w) : w.length ≤ 1000000 := by have := h.l; omega
theorem sum_wr : ∀ {ps : List Pt}, okPs ps → ((ps.map wrP).map (·.length)).sum ≤ 252 * lenPs ps
  | [], _ => by simp
  | p :: r, h => by
    have := sum_wr h.2
    have := wrP_len h.1
    simp only [List.map_cons, List.sum_cons, lenPs] at *
    omega
def p_shw (f : Pt → Bool) (d : Ad) : PF := fun ds W Q => ∃ p, f p = true ∧ ds = [pD d p] ∧ okP p ∧ Q (.str (wrP p)) W
abbrev sp_Let_shown (d : Ad) : Sp := lift d.K (p_shw (fun p => match p with | .let_ .. => true | _ => false) d)
abbrev sp_Reckon_shown (d : Ad) : Sp := lift d.K (p_shw (fun p => match p with | .rk .. => true | _ => false) d)
abbrev sp_Take_shown (d : Ad) : Sp := lift d.K (p_shw (fun p => match p with | .take .. => true | _ => false) d)
abbrev sp_Put_shown (d : Ad) : Sp := lift d.K (p_shw (fun p => match p with | .put .. => true | _ => false) d)
abbrev sp_Throw_shown (d : Ad) : Sp := lift d.K (p_shw (fun p => match p with | .throw .. => true | _ => false) d)
abbrev sp_Wait_shown (d : Ad) : Sp := lift d.K (p_shw (fun p => match p with | .wait => true | _ => false) d)
def pN_list_shown (n : Nat) (d : Ad) : PF := fun ds W Q => ∃ x, ds = [x] ∧ ∃ ps, SeqD W x (psD d ps) ∧ okPs ps ∧ lenPs ps ≤ 1000 ∧ ndPs ps + 1 ≤ n ∧ Q (.str (wr ps)) W
def pN_bracketed (n : Nat) (d : Ad) : PF := fun ds W Q => ∃ ps, ds = [.lst (psD d ps)] ∧ okPs ps ∧ lenPs ps ≤ 1000 ∧ ndPs ps + 2 ≤ n ∧ Q (.str (wrIn ps)) W
def pN_If_shown (n : Nat) (d : Ad) : PF := fun ds W Q => ∃ s ps os, ds = [pD d (.iff s ps os)] ∧ okP (.iff s ps os) ∧ lenP (.iff s ps os) ≤ 1000 ∧ ndP (.iff s ps os) ≤ n ∧ Q (.str (wrP (.iff s ps os))) W
def pN_Either_shown (n : Nat) (d : Ad) : PF := fun ds W Q => ∃ ps os, ds = [pD d (.eith ps os)] ∧ okP (.eith ps os) ∧ lenP (.eith ps os) ≤ 1000 ∧ ndP (.eith ps os) ≤ n ∧ Q (.str (wrP (.eith ps os))) W
def pN_Try_shown (n : Nat) (d : Ad) : PF := fun ds W Q => ∃ ps m s os, ds = [pD d (.tryy ps m s os)] ∧ okP (.tryy ps m s os) ∧ lenP (.tryy ps m s os) ≤ 1000 ∧ ndP (.tryy ps m s os) ≤ n ∧ Q (.str (wrP (.tryy ps m s os))) W
abbrev spN_list_shown (n : Nat) (d : Ad) : Sp := lift d.K (pN_list_shown n d)
abbrev spN_bracketed (n : Nat) (d : Ad) : Sp := lift d.K (pN_bracketed n d)
abbrev spN_If_shown (n : Nat) (d : Ad) : Sp := lift d.K (pN_If_shown n d)
abbrev spN_Either_shown (n : Nat) (d : Ad) : Sp := lift d.K (pN_Either_shown n d)
abbrev spN_Try_shown (n : Nat) (d : Ad) : Sp := lift d.K (pN_Try_shown n d)
abbrev sp_list_shown (d : Ad) : Sp := spN_list_shown 60 d
abbrev sp_bracketed (d : Ad) : Sp := spN_bracketed 60 d
abbrev sp_If_shown (d : Ad) : Sp := spN_If_shown 60 d
abbrev sp_Either_shown (d : Ad) : Sp := spN_Either_shown 60 d
abbrev sp_Try_shown (d : Ad) : Sp := spN_Try_shown 60 d
section
variable {d : Ad} {vs : List V} {H : Hp} {Q : VK} {E : XK}
theorem no_list_shown (h : spN_list_shown 0 d vs H Q E) : False := by
  obtain ⟨_, _, _, _, _, _, ⟨_, _, _, _, _, _, h, _⟩, _⟩ := h
  omega
theorem no_bracketed (h : spN_bracketed 0 d vs H Q E) : False := by
  obtain ⟨_, _, _, _, _, _, ⟨_, _, _, _, h, _⟩, _⟩ := h
  omega
theorem no_If_shown (h : spN_If_shown 0 d vs H Q E) : False := by
  obtain ⟨_, _, _, _, _, _, ⟨_, _, _, _, _, _, h, _⟩, _⟩ := h
  simp only [ndP] at h; omega
theorem no_Either_shown (h : spN_Either_shown 0 d vs H Q E) : False := by
  obtain ⟨_, _, _, _, _, _, ⟨_, _, _, _, _, h, _⟩, _⟩ := h
  simp only [ndP] at h; omega
theorem no_Try_shown (h : spN_Try_shown 0 d vs H Q E) : False := by
  obtain ⟨_, _, _, _, _, _, ⟨_, _, _, _, _, _, _, h, _⟩, _⟩ := h
  simp only [ndP] at h; omega
end
abbrev N_Let_shown : List Str := ["self"]
def t_Let_shown (d : Ad) : TS :=
  (tRet (aJoin d.K (tC (.str " ")) (tLst (tCons (tC (.str "let")) (tCons (tFld d.K (tVar 0) "slot") (tCons (tCB rStrI (tCons (tFld d.K (tVar 0) "number") tNil)) tNil))))))
abbrev N_Reckon_shown : List Str := ["self"]
def t_Reckon_shown (d : Ad) : TS :=
  (tRet (aJoin d.K (tC (.str " ")) (tLst (tCons (tFld d.K (tVar 0) "word") (tCons (tFld d.K (tVar 0) "slot") (tCons (tFld d.K (tVar 0) "one") (tCons (tFld d.K (tVar 0) "other") tNil)))))))
abbrev N_Take_shown : List Str := ["self"]
def t_Take_shown (d : Ad) : TS :=
  (tRet (aJoin d.K (tC (.str " ")) (tLst (tCons (tC (.str "take")) (tCons (tFld d.K (tVar 0) "slot") (tCons (tFld d.K (tVar 0) "place") tNil))))))
abbrev N_Put_shown : List Str := ["self"]
def t_Put_shown (d : Ad) : TS :=
  (tRet (aJoin d.K (tC (.str " ")) (tLst (tCons (tC (.str "put")) (tCons (tFld d.K (tVar 0) "place") (tCons (tFld d.K (tVar 0) "slot") tNil))))))
abbrev N_Throw_shown : List Str := ["self"]
def t_Throw_shown (d : Ad) : TS :=
  (tRet (aJoin d.K (tC (.str " ")) (tLst (tCons (tC (.str "throw")) (tCons (tFld d.K (tVar 0) "name") (tCons (tFld d.K (tVar 0) "slot") tNil))))))
abbrev N_Wait_shown : List Str := ["self"]
def t_Wait_shown (d : Ad) : TS :=
  (tRet (tC (.str "wait")))
abbrev N_list_shown : List Str := ["parts", "part"]
def t_list_shown (n : Nat) (d : Ad) : TS :=
  (tRet (aJoin d.K (tC (.str " ; ")) (tLc (iList d.K (tVar 0)) (gName 1) tYes (tAlt (tMeth d.cLet "shown" (sp_Let_shown d) [] E0 (tVar 1) tNil) (tAlt (tMeth d.cReckon "shown" (sp_Reckon_shown d) [] E0 (tVar 1) tNil) (tAlt (tMeth d.cTake "shown" (sp_Take_shown d) [] E0 (tVar 1) tNil) (tAlt (tMeth d.cPut "shown" (sp_Put_shown d) [] E0 (tVar 1) tNil) (tAlt (tMeth d.cIf "shown" (spN_If_shown n d) [] E0 (tVar 1) tNil) (tAlt (tMeth d.cEither "shown" (spN_Either_shown n d) [] E0 (tVar 1) tNil) (tAlt (tMeth d.cTry "shown" (spN_Try_shown n d) [] E0 (tVar 1) tNil) (tAlt (tMeth d.cThrow "shown" (sp_Throw_shown d) [] E0 (tVar 1) tNil) (tMeth d.cWait "shown" (sp_Wait_shown d) [] E0 (tVar 1) tNil))))))))) [1])))
abbrev N_bracketed : List Str := ["parts", "words"]
def t_bracketed (n : Nat) (d : Ad) : TS :=
  (tSeq (tAsg (tLst (tCons (tC (.str "(")) tNil)) (gName 1))
  (tSeq (tIfS (tTest (tOp rGt (tCB (Evl.rLenS d.K) (tCons (tVar 0) tNil)) (tC (.int 0)))) (tDrop (tBM d.K "list" rAppend (tVar 1) (tCons (tCall (spN_list_shown n d) [] E0 (tCons (tVar 0) tNil)) tNil))) tNext)
  (tRet (aJoin d.K (tC (.str " ")) (aCatQ d.K (tVar 1) (tLst (tCons (tC (.str ")")) tNil)))))))
abbrev N_If_shown : List Str := ["self"]
def t_If_shown (n : Nat) (d : Ad) : TS :=
  (tRet (aJoin d.K (tC (.str " ")) (tLst (tCons (tC (.str "if")) (tCons (tFld d.K (tVar 0) "slot") (tCons (tCall (spN_bracketed n d) [] E0 (tCons (tFld d.K (tVar 0) "parts") tNil)) (tCons (tC (.str "else")) (tCons (tCall (spN_bracketed n d) [] E0 (tCons (tFld d.K (tVar 0) "others") tNil)) tNil))))))))
abbrev N_Either_shown : List Str := ["self"]
def t_Either_shown (n : Nat) (d : Ad) : TS :=
  (tRet (aJoin d.K (tC (.str " ")) (tLst (tCons (tC (.str "either")) (tCons (tCall (spN_bracketed n d) [] E0 (tCons (tFld d.K (tVar 0) "parts") tNil)) (tCons (tC (.str "or")) (tCons (tCall (spN_bracketed n d) [] E0 (tCons (tFld d.K (tVar 0) "others") tNil)) tNil)))))))
abbrev N_Try_shown : List Str := ["self", "words"]
def t_Try_shown (n : Nat) (d : Ad) : TS :=
  (tSeq (tAsg (tLst (tCons (tC (.str "try")) (tCons (tCall (spN_bracketed n d) [] E0 (tCons (tFld d.K (tVar 0) "parts") tNil)) (tCons (tC (.str "on")) (tCons (tFld d.K (tVar 0) "name") (tCons (tFld d.K (tVar 0) "slot") tNil)))))) (gName 1))
  (tRet (aJoin d.K (tC (.str " ")) (aCatQ d.K (tVar 1) (tLst (tCons (tCall (spN_bracketed n d) [] E0 (tCons (tFld d.K (tVar 0) "others") tNil)) tNil))))))
local macro_rules | `(tactic| walk_at "set") => `(tactic| ((try simp only [List.set_cons_succ, List.set_cons_zero]); rfl))
local macro_rules | `(tactic| walk_at "sc") => `(tactic| first | assumption | decide | omega | (unfold CMul; omega) | (unfold CDiv; omega) | (unfold CPow; decide) | (unfold CDiv; decide))
local macro_rules | `(tactic| walk_at "go") => `(tactic| (repeat (first | walk_at "step" | walk_at "callx")))
local macro_rules | `(tactic| walk_at "goN") => `(tactic| (repeat (first | walk_at "step" | walk_at "callx" | ((with_reducible show ∀ p, _ = none → _); walk_at "new"))))
local macro_rules | `(tactic| walk_at "len") => `(tactic| first
  | (obtain ⟨rfl, _⟩ := h; rfl) | (obtain ⟨_, rfl, _⟩ := h; rfl) | (obtain ⟨_, _, rfl, _⟩ := h; rfl) | (obtain ⟨_, _, _, rfl, _⟩ := h; rfl) | (obtain ⟨_, _, _, _, rfl, _⟩ := h; rfl)
  | (obtain ⟨_, _, _, _, _, rfl, _⟩ := h; rfl) | (obtain ⟨_, _, _, _, _, _, rfl, _⟩ := h; rfl) | (obtain ⟨_, _, _, _, _, _, _, rfl, _⟩ := h; rfl) | (obtain ⟨_, _, _, _, _, _, _, _, rfl, _⟩ := h; rfl)
  | (obtain ⟨_, _, _, _, _, _, _, _, _, rfl, _⟩ := h; rfl) | (obtain ⟨_, _, _, _, _, _, _, _, _, _, rfl, _⟩ := h; rfl))
local macro_rules | `(tactic| walk_at "dd") => `(tactic| first | with_reducible assumption | ((with_reducible refine' DctD.own ?h); (case h => walk_at "wk")) | ((with_reducible refine' DctD.lock ?h); (case h => walk_at "wk")))
local macro_rules | `(tactic| walk_at "mat") => `(tactic| first | ((with_reducible refine' MAt.ins ?h ?l); (case h => walk_at "wk"); (case l => rfl)) | ((with_reducible refine' log_mat ?h ?l ?l2); (case h => walk_at "wk"); (case l => decide +kernel); (case l2 => decide +kernel)))
local macro_rules | `(tactic| walk_at "isim") => `(tactic| first | ((with_reducible refine' m_isi_let_ ?t ?k ?h ?e ?_); (case t => assumption); (case e => assumption); (case h => rfl)) | ((with_reducible refine' m_isi_rk ?t ?k ?h ?e ?_); (case t => assumption); (case e => assumption); (case h => rfl)) | ((with_reducible refine' m_isi_take ?t ?k ?h ?e ?_); (case t => assumption); (case e => assumption); (case h => rfl)) | ((with_reducible refine' m_isi_put ?t ?k ?h ?e ?_); (case t => assumption); (case e => assumption); (case h => rfl)) | ((with_reducible refine' m_isi_throw ?t ?k ?h ?e ?_); (case t => assumption); (case e => assumption); (case h => rfl)) | ((with_reducible refine' m_isi_iff ?t ?k ?h ?e ?_); (case t => assumption); (case e => assumption); (case h => rfl)) | ((with_reducible refine' m_isi_eith ?t ?k ?h ?e ?_); (case t => assumption); (case e => assumption); (case h => rfl)) | ((with_reducible refine' m_isi_tryy ?t ?k ?h ?e ?_); (case t => assumption); (case e => assumption); (case h => rfl)))
local macro_rules | `(tactic| walk_at "callm") => `(tactic| fail)
section
variable {d : Ad} {vs : List V} {H : Hp} {Q : VK} {E : XK}
theorem pure_Let_shown (T : TParts d) (h : sp_Let_shown d vs H Q E) : t_Let_shown d { nx := fun _ H' => Q .non H', rt := Q } (start N_Let_shown vs) H := by
  refine lift_pure h fun ds W Q hp => ?_
  obtain ⟨p, hf, rfl, ok, k⟩ := hp
  cases p <;> try cases hf
  rename_i s v
  have c : Cls d.K d.cLet := T.cl .let_
  have n0 : NoAttr d.K d.cLet "slot" := T.na .let_ _ (by simp [atK])
  have n1 : NoAttr d.K d.cLet "number" := T.na .let_ _ (by simp [atK])
  rw [pD]
  show WS d.K (t_Let_shown d) [some (.obj d.cLet nLet [.str s, .int v])] W _
  unfold t_Let_shown
  walk_at "mgo"
  refine d_strI (log_small ok.2.1 (Int.lt_trans ok.2.2 (by decide))) ?_
  walk_at "mgo"
  walk_at "dat"
  refine d_join (ys := ["let", s, numS v]) (SeqD.lst _) (join_ok (all_cons (wk_le wk_let) <| all_cons (wk_le (wordOk_sl ok.1)) <| all_cons (wk_le (wordOk_num ok.2.1 ok.2.2)) <| all_nil) (by simp)) ?_
  exact ret_dat (Sub.refl _) k
theorem pure_Reckon_shown (T : TParts d) (h : sp_Reckon_shown d vs H Q E) : t_Reckon_shown d { nx := fun _ H' => Q .non H', rt := Q } (start N_Reckon_shown vs) H := by
  refine lift_pure h fun ds W Q hp => ?_
  obtain ⟨p, hf, rfl, ok, k⟩ := hp
  cases p <;> try cases hf
  rename_i w s o t
  have c : Cls d.K d.cReckon := T.cl .rk
  have n0 : NoAttr d.K d.cReckon "word" := T.na .rk _ (by simp [atK])
  have n1 : NoAttr d.K d.cReckon "slot" := T.na .rk _ (by simp [atK])
  have n2 : NoAttr d.K d.cReckon "one" := T.na .rk _ (by simp [atK])
  have n3 : NoAttr d.K d.cReckon "other" := T.na .rk _ (by simp [atK])
  rw [pD]
  show WS d.K (t_Reckon_shown d) [some (.obj d.cReckon nReckon [.str w, .str s, .str o, .str t])] W _
  unfold t_Reckon_shown
  walk_at "mgo"
  walk_at "dat"
  refine d_join (ys := [w, s, o, t]) (SeqD.lst _) (join_ok (all_cons (wk_le (five_ok ok.1)) <| all_cons (wk_le (wordOk_sl ok.2.1)) <| all_cons (wk_le (wordOk_sl ok.2.2.1)) <| all_cons (wk_le (wordOk_sl ok.2.2.2)) <| all_nil) (by simp)) ?_
  exact ret_dat (Sub.refl _) k
theorem pure_Take_shown (T : TParts d) (h : sp_Take_shown d vs H Q E) : t_Take_shown d { nx := fun _ H' => Q .non H', rt := Q } (start N_Take_shown vs) H := by
  refine lift_pure h fun ds W Q hp => ?_
  obtain ⟨p, hf, rfl, ok, k⟩ := hp
  cases p <;> try cases hf
  rename_i s p
  have c : Cls d.K d.cTake := T.cl .take
  have n0 : NoAttr d.K d.cTake "slot" := T.na .take _ (by simp [atK])
  have n1 : NoAttr d.K d.cTake "place" := T.na .take _ (by simp [atK])
  rw [pD]
  show WS d.K (t_Take_shown d) [some (.obj d.cTake nTake [.str s, .str p])] W _
  unfold t_Take_shown
  walk_at "mgo"
  walk_at "dat"
  refine d_join (ys := ["take", s, p]) (SeqD.lst _) (join_ok (all_cons (wk_le wk_take) <| all_cons (wk_le (wordOk_sl ok.1)) <| all_cons (wk_le (wordOk_sl ok.2)) <| all_nil) (by simp)) ?_
  exact ret_dat (Sub.refl _) k
theorem pure_Put_shown (T : TParts d) (h : sp_Put_shown d vs H Q E) : t_Put_shown d { nx := fun _ H' => Q .non H', rt := Q } (start N_Put_shown vs) H := by
  refine lift_pure h fun ds W Q hp => ?_
  obtain ⟨p, hf, rfl, ok, k⟩ := hp
  cases p <;> try cases hf
  rename_i p s
  have c : Cls d.K d.cPut := T.cl .put
  have n0 : NoAttr d.K d.cPut "place" := T.na .put _ (by simp [atK])
  have n1 : NoAttr d.K d.cPut "slot" := T.na .put _ (by simp [atK])
  rw [pD]
  show WS d.K (t_Put_shown d) [some (.obj d.cPut nPut [.str p, .str s])] W _
  unfold t_Put_shown
  walk_at "mgo"
  walk_at "dat"
  refine d_join (ys := ["put", p, s]) (SeqD.lst _) (join_ok (all_cons (wk_le wk_put) <| all_cons (wk_le (wordOk_sl ok.1)) <| all_cons (wk_le (wordOk_sl ok.2)) <| all_nil) (by simp)) ?_
  exact ret_dat (Sub.refl _) k
theorem pure_Throw_shown (T : TParts d) (h : sp_Throw_shown d vs H Q E) : t_Throw_shown d { nx := fun _ H' => Q .non H', rt := Q } (start N_Throw_shown vs) H := by
  refine lift_pure h fun ds W Q hp => ?_
  obtain ⟨p, hf, rfl, ok, k⟩ := hp
  cases p <;> try cases hf
  rename_i m s
  have c : Cls d.K d.cThrow := T.cl .throw
  have n0 : NoAttr d.K d.cThrow "name" := T.na .throw _ (by simp [atK])
  have n1 : NoAttr d.K d.cThrow "slot" := T.na .throw _ (by simp [atK])
  rw [pD]
  show WS d.K (t_Throw_shown d) [some (.obj d.cThrow nThrow [.str m, .str s])] W _
  unfold t_Throw_shown
  walk_at "mgo"
  walk_at "dat"
  refine d_join (ys := ["throw", m, s]) (SeqD.lst _) (join_ok (all_cons (wk_le wk_throw) <| all_cons (wk_le (wordOk_name ok.1)) <| all_cons (wk_le (wordOk_sl ok.2)) <| all_nil) (by simp)) ?_
  exact ret_dat (Sub.refl _) k
theorem pure_Wait_shown (h : sp_Wait_shown d vs H Q E) : t_Wait_shown d { nx := fun _ H' => Q .non H', rt := Q } (start N_Wait_shown vs) H := by
  refine lift_pure h fun ds W Q hp => ?_
  obtain ⟨p, hf, rfl, ok, k⟩ := hp
  cases p <;> try cases hf
  show WS d.K (t_Wait_shown d) [some (pD d .wait)] W _
  unfold t_Wait_shown
  rw [show wrP .wait = "wait" from by decide +kernel] at k
  walk_at "mgo"
  exact ret_dat (Sub.refl _) k
theorem pure_list_shown {n : Nat} (h : spN_list_shown (n + 1) d vs H Q E) : t_list_shown n d { nx := fun _ H' => Q .non H', rt := Q } (start N_list_shown vs) H := by
  refine lift_pure h fun ds W Q hp => ?_
  obtain ⟨x, rfl, ps, hx, ok, hl, hn, k⟩ := hp
  show WS d.K (t_list_shown n d) [some x, none] W _
  unfold t_list_shown
  walk_at "mgo"
  refine ⟨?_, ps.map fun p => .str (wrP p), ?_, ?_, ?_⟩
  · have := len_lenP ps
    show (psD d ps).length ≤ 1000000
    rw [psD_len]; omega
  · show (List.map _ ps).length = (psD d ps).length
    rw [psD_len, List.length_map]
  · intro q i y L hq hi hy
    obtain ⟨p, hp, rfl⟩ := psD_get hy
    have h2 := lenP_mem hp
    have h3 := ndP_mem hp
    have okp := okPs_iff.mp ok p (List.mem_of_getElem? hp)
    have fin : FzQ (SubQ fun y W4 => (ps.map fun p => D.str (wrP p))[i]? = some y ∧ W4 = wset W q (.lst L)) (.raw (.str (wrP p))) (wset W q (.lst L)) :=
      fz_id (sub_q (Sub.refl _) ⟨by rw [List.getElem?_map, hp]; rfl, rfl⟩)
    walk_at "mgo"
    cases p with
    | let_ s v =>
      refine we_altL ?_
      refine we_methO ?_
      walk_at "mgo"
      refine ⟨_, _, pD_let_, by decide +kernel, ?_⟩
      walk_at "mgo"
      refine ⟨_, rfl, rfl, okp, ?_⟩
      exact fin
    | rk w s o t =>
      refine we_altR <| we_altL ?_
      refine we_methO ?_
      walk_at "mgo"
      refine ⟨_, _, pD_rk, by decide +kernel, ?_⟩
      walk_at "mgo"
      refine ⟨_, rfl, rfl, okp, ?_⟩
      exact fin
    | take s p =>
      refine we_altR <| we_altR <| we_altL ?_
      refine we_methO ?_
      walk_at "mgo"
      refine ⟨_, _, pD_take, by decide +kernel, ?_⟩
      walk_at "mgo"
      refine ⟨_, rfl, rfl, okp, ?_⟩
      exact fin
    | put p s =>
      refine we_altR <| we_altR <| we_altR <| we_altL ?_
      refine we_methO ?_
      walk_at "mgo"
      refine ⟨_, _, pD_put, by decide +kernel, ?_⟩
      walk_at "mgo"
      refine ⟨_, rfl, rfl, okp, ?_⟩
      exact fin
    | iff s qs os =>
      refine we_altR <| we_altR <| we_altR <| we_altR <| we_altL ?_
      refine we_methO ?_
      walk_at "mgo"
      refine ⟨_, _, pD_iff, by decide +kernel, ?_⟩
      walk_at "mgo"
      refine ⟨s, qs, os, rfl, okp, by omega, by omega, ?_⟩
      exact fin
    | eith qs os =>
      refine we_altR <| we_altR <| we_altR <| we_altR <| we_altR <| we_altL ?_
      refine we_methO ?_
      walk_at "mgo"
      refine ⟨_, _, pD_eith, by decide +kernel, ?_⟩
      walk_at "mgo"
      refine ⟨qs, os, rfl, okp, by omega, by omega, ?_⟩
      exact fin
    | tryy qs m s os =>
      refine we_altR <| we_altR <| we_altR <| we_altR <| we_altR <| we_altR <| we_altL ?_
      refine we_methO ?_
      walk_at "mgo"
      refine ⟨_, _, pD_tryy, by decide +kernel, ?_⟩
      walk_at "mgo"
      refine ⟨qs, m, s, os, rfl, okp, by omega, by omega, ?_⟩
      exact fin
    | throw m s =>
      refine we_altR <| we_altR <| we_altR <| we_altR <| we_altR <| we_altR <| we_altR <| we_altL ?_
      refine we_methO ?_
      walk_at "mgo"
      refine ⟨_, _, pD_throw, by decide +kernel, ?_⟩
      walk_at "mgo"
      refine ⟨_, rfl, rfl, okp, ?_⟩
      exact fin
    | wait =>
      refine we_altR <| we_altR <| we_altR <| we_altR <| we_altR <| we_altR <| we_altR <| we_altR <| ?_
      refine we_methO ?_
      walk_at "mgo"
      refine ⟨_, _, pD_wait, by decide +kernel, ?_⟩
      walk_at "mgo"
      refine ⟨_, rfl, rfl, okp, ?_⟩
      exact fin
  · intro q hq
    refine fz_new hq ?_
    walk_at "mgo"
    rw [show List.map (fun p => D.str (wrP p)) ps = (ps.map wrP).map D.str by rw [List.map_map]; rfl]
    refine d_join (ys := ps.map wrP) (SeqD.lst _) ?_ ?_
    · have h1 := sum_wr ok
      have h2 := len_lenP ps
      rw [List.length_map, show (" ; " : Str).length = 3 from by decide +kernel]
      omega
    rw [join_parts]
    exact ret_dat (Sub.refl _) k
theorem pure_bracketed {n : Nat} (h : spN_bracketed (n + 1) d vs H Q E) : t_bracketed n d { nx := fun _ H' => Q .non H', rt := Q } (start N_bracketed vs) H := by
  refine lift_pure h fun ds W Q hp => ?_
  obtain ⟨ps, rfl, ok, hl, hn, k⟩ := hp
  show WS d.K (t_bracketed n d) [some (.lst (psD d ps)), none] W _
  unfold t_bracketed
  have lw := wr_len ok
  walk_at "mgo"
  intro L hL
  refine fz_id ?_
  walk_at "mgo"
  rw [psD_len]
  cases ps with
  | nil =>
    refine w_ff (dB_f (by simp)) ?_
    walk_at "mgo"
    walk_at "dat"
    intro q hq
    refine fz_new hq ?_
    walk_at "mgo"
    refine d_join (ys := ["(", ")"]) (SeqD.lst _) (join_ok (all_cons (wk_le wk_op) <| all_cons (wk_le wk_cl) all_nil) (by simp)) ?_
    rw [join_in0]
    exact ret_dat (Sub.new (Sub.refl _) hL) k
  | cons p r =>
    refine w_tt (dB_t (by simp)) ?_
    walk_at "mgo"
    refine ⟨_, rfl, p :: r, SeqD.lst _, ok, hl, by omega, ?_⟩
    walk_at "mgo"
    walk_at "dat"
    intro q hq
    refine fz_new hq ?_
    walk_at "mgo"
    refine d_join (ys := ["(", wr (p :: r), ")"]) (SeqD.lst _) (join_ok (all_cons (wk_le wk_op) <| all_cons (by omega) <| all_cons (wk_le wk_cl) all_nil) (by simp)) ?_
    rw [join_in (by simp)]
    exact ret_dat (Sub.new (Sub.refl _) hL) k
theorem pure_If_shown (T : TParts d) {n : Nat} (h : spN_If_shown (n + 1) d vs H Q E) : t_If_shown n d { nx := fun _ H' => Q .non H', rt := Q } (start N_If_shown vs) H := by
  refine lift_pure h fun ds W Q hp => ?_
  obtain ⟨s, ps, os, rfl, ok, hl, hn, k⟩ := hp
  have c : Cls d.K d.cIf := T.cl .iff
  have n0 : NoAttr d.K d.cIf "slot" := T.na .iff _ (by simp [atK])
  have n1 : NoAttr d.K d.cIf "parts" := T.na .iff _ (by simp [atK])
  have n2 : NoAttr d.K d.cIf "others" := T.na .iff _ (by simp [atK])
  simp only [lenP, ndP] at hl hn
  rw [pD]
  show WS d.K (t_If_shown n d) [some (.obj d.cIf nIf [.str s, .lst (psD d ps), .lst (psD d os)])] W _
  unfold t_If_shown
  have l1 := wrIn_len ok.2.1
  have l2 := wrIn_len ok.2.2
  walk_at "mgo"
  refine ⟨ps, rfl, ok.2.1, by omega, by omega, ?_⟩
  walk_at "mgo"
  refine ⟨os, rfl, ok.2.2, by omega, by omega, ?_⟩
  walk_at "mgo"
  walk_at "dat"
  refine d_join (ys := ["if", s, wrIn ps, "else", wrIn os]) (SeqD.lst _) (join_ok (all_cons (wk_le wk_if) <| all_cons (wk_le (wordOk_sl ok.1)) <| all_cons (by omega) <| all_cons (wk_le wk_else) <| all_cons (by omega) all_nil) (by simp)) ?_
  rw [join_iff]
  exact ret_dat (Sub.refl _) k
theorem pure_Either_shown (T : TParts d) {n : Nat} (h : spN_Either_shown (n + 1) d vs H Q E) : t_Either_shown n d { nx := fun _ H' => Q .non H', rt := Q } (start N_Either_shown vs) H := by
  refine lift_pure h fun ds W Q hp => ?_
  obtain ⟨ps, os, rfl, ok, hl, hn, k⟩ := hp
  have c : Cls d.K d.cEither := T.cl .eith
  have n0 : NoAttr d.K d.cEither "parts" := T.na .eith _ (by simp [atK])
  have n1 : NoAttr d.K d.cEither "others" := T.na .eith _ (by simp [atK])
  simp only [lenP, ndP] at hl hn
  rw [pD]
  show WS d.K (t_Either_shown n d) [some (.obj d.cEither nEither [.lst (psD d ps), .lst (psD d os)])] W _
  unfold t_Either_shown
  have l1 := wrIn_len ok.1
  have l2 := wrIn_len ok.2
  walk_at "mgo"
  refine ⟨ps, rfl, ok.1, by omega, by omega, ?_⟩
  walk_at "mgo"
  refine ⟨os, rfl, ok.2, by omega, by omega, ?_⟩
  walk_at "mgo"
  walk_at "dat"
  refine d_join (ys := ["either", wrIn ps, "or", wrIn os]) (SeqD.lst _) (join_ok (all_cons (wk_le wk_either) <| all_cons (by omega) <| all_cons (wk_le wk_or) <| all_cons (by omega) all_nil) (by simp)) ?_
  rw [join_eith]
  exact ret_dat (Sub.refl _) k
theorem pure_Try_shown (T : TParts d) {n : Nat} (h : spN_Try_shown (n + 1) d vs H Q E) : t_Try_shown n d { nx := fun _ H' => Q .non H', rt := Q } (start N_Try_shown vs) H := by
  refine lift_pure h fun ds W Q hp => ?_
  obtain ⟨ps, m, s, os, rfl, ok, hl, hn, k⟩ := hp
  have c : Cls d.K d.cTry := T.cl .tryy
  have n0 : NoAttr d.K d.cTry "parts" := T.na .tryy _ (by simp [atK])
  have n1 : NoAttr d.K d.cTry "name" := T.na .tryy _ (by simp [atK])
  have n2 : NoAttr d.K d.cTry "slot" := T.na .tryy _ (by simp [atK])
  have n3 : NoAttr d.K d.cTry "others" := T.na .tryy _ (by simp [atK])
  simp only [lenP, ndP] at hl hn
  rw [pD]
  show WS d.K (t_Try_shown n d) [some (.obj d.cTry nTry [.lst (psD d ps), .str m, .str s, .lst (psD d os)]), none] W _
  unfold t_Try_shown
  have l1 := wrIn_len ok.1
  have l2 := wrIn_len ok.2.2.2
  walk_at "mgo"
  refine ⟨ps, rfl, ok.1, by omega, by omega, ?_⟩
  walk_at "mgo"
  walk_at "dat"
  refine ⟨os, rfl, ok.2.2.2, by omega, by omega, ?_⟩
  walk_at "mgo"
  walk_at "dat"
  walk_at "dat"
  refine d_join (ys := ["try", wrIn ps, "on", m, s, wrIn os]) (SeqD.lst _) (join_ok (all_cons (wk_le wk_try) <| all_cons (by omega) <| all_cons (wk_le wk_on) <| all_cons (wk_le (wordOk_name ok.2.1)) <| all_cons (wk_le (wordOk_sl ok.2.2.1)) <| all_cons (by omega) all_nil) (by simp)) ?_
  rw [join_tryy]
  exact ret_dat (Sub.refl _) k
end
end
set_option Elab.async false
set_option linter.all false
set_option maxRecDepth 100000
set_option maxHeartbeats 400000
set_option autoImplicit false
section
open PySem L2
section
variable {K : PySem.W.Frag} {e : Env} {W : Wd} {te ta tb to ti : TE} {Q : KD} {ts : TS} {E : DE} {x y d : D} {QI : ItD → Wd → Prop} {B H : Hp} {a : Addr} {ds : List D}
end
def cX (cs : List Addr → List Cell) (F : List Addr) : Wd := fun b => (F.zip (cs F)).lookup b
def cC (n : Nat) (cs : List Addr → List Cell) : Cell := .abs n (cX cs)
theorem zipC_get {F : List Addr} {cs : List Cell} (nd : F.Nodup) : ∀ {i : Nat} {b : Addr} {c : Cell}, F[i]? = some b → cs[i]? = some c → (F.zip cs).lookup b = some c := by
  induction F generalizing cs with
  | nil => intro i b c h; simp at h
  | cons x F ih =>
    intro i b c h k
    cases cs with
    | nil => simp at k
    | cons u cs =>
      rw [List.zip_cons_cons, List.lookup_cons]
      cases i with
      | zero => cases h; cases k; simp
      | succ i =>
        have hm : b ∈ F := List.mem_of_getElem? (by simpa using h)
        have : b ≠ x := fun q => (List.nodup_cons.mp nd).1 (q ▸ hm)
        rw [beq_eq_false_iff_ne.mpr this]
        exact ih (List.nodup_cons.mp nd).2 (by simpa using h) (by simpa using k)
theorem zipC_dom {F : List Addr} {cs : List Cell} (ln : F.length = cs.length) (b : Addr) : ((F.zip cs).lookup b).isSome = true ↔ b ∈ F := by
  induction F generalizing cs with
  | nil => simp
  | cons a F ih =>
    cases cs with
    | nil => simp at ln
    | cons t ts =>
      rw [List.zip_cons_cons, List.lookup_cons]
      by_cases q : b = a
      · subst q; simp
      · rw [beq_eq_false_iff_ne.mpr q]
        rw [ih (by simpa using ln)]
        simp [q]
section
variable {K : PySem.W.Frag} {e : Env} {W : Wd} {te : TE} {Q : KD} {ts : TS} {E : DE} {a : Addr} {n : Nat} {cs : List Addr → List Cell}
theorem closeC {W1 : Wd} {F : List Addr} (hl : F.length = n) (hc : (cs F).length = n) (nd : F.Nodup) (hh : F.head? = some a) (hf : ∀ b ∈ F, b ≠ a → W b = none) (he : ∀ (i : Nat) (b : Addr) (c : Cell), F[i]? = some b → (cs F)[i]? = some c → W1 b = some c) (ho : ∀ b c, b ∉ F → W b = some c → W1 b = some c) : Vs W1 (wset W a (cC n cs)) :=
  close_vs hl nd hh hf (zipC_dom (by rw [hl, hc])) (fun b hb => by
    obtain ⟨i, hi⟩ := List.getElem?_of_mem hb
    have hlt := (List.getElem?_eq_some_iff.mp hi).1
    have hc' := List.getElem?_eq_getElem (l := cs F) (i := i) (by omega)
    rw [he i b _ hi hc']
    exact (zipC_get nd hi hc').symm) ho
end
structure Mrk where
  kd : Str
  nm : Str
  lt : Str
  tg : Nat
  ps : List Int
structure Hnd where
  dd : List Rows
  now : Nat
  kept : List Int
  mood : Str
  pc : Nat
  s : AS
  marks : List Mrk
  seals : Dm
abbrev ddD (dd : List Rows) : D := .lst (dd.map fun rs => .lst (rowsL rs))
def hF (h : Hnd) (K E L M S : Addr) : List (Str × D) := [("deeds", ddD h.dd), ("now", .raw (.int (h.now : Nat))), ("kept", .raw (.ref K)), ("mood", .raw (.str h.mood)), ("at", .raw (.int (h.pc : Nat))), ("held", .raw (.ref E)), ("log", .raw (.ref L)), ("marks", .raw (.ref M)), ("seals", .raw (.ref S))]
abbrev mkD (m : Mrk) (p : Addr) : D := .tup [.raw (.str m.kd), .raw (.str m.nm), .raw (.str m.lt), .raw (.int (m.tg : Nat)), .raw (.ref p)]
def hCs (d : Ad) (h : Hnd) : List Addr → List Cell
  | _ :: K :: E :: L :: M :: S :: ms => .ins d.cHand (hF h K E L M S) :: .dct (slD h.kept) :: .dct (slD h.s.ps) :: logC d h.s.ts h.s.sn :: .lst (List.zipWith mkD h.marks ms) :: .dct (dmD h.seals) :: h.marks.map fun m => .dct (slD m.ps)
  | _ => []
def handC (d : Ad) (h : Hnd) : Cell := cC (6 + h.marks.length) (hCs d h)
structure HandIn (d : Ad) (W1 : Wd) (a K E L M S : Addr) (ms : List Addr) (h : Hnd) : Prop where
  ha : W1 a = some (.ins d.cHand (hF h K E L M S))
  hK : W1 K = some (.dct (slD h.kept))
  hE : W1 E = some (.dct (slD h.s.ps))
  hL : W1 L = some (logC d h.s.ts h.s.sn)
  hM : W1 M = some (.lst (List.zipWith mkD h.marks ms))
  hS : W1 S = some (.dct (dmD h.seals))
  ln : ms.length = h.marks.length
  at' : ∀ (i : Nat) (b : Addr) (m : Mrk), ms[i]? = some b → h.marks[i]? = some m → W1 b = some (.dct (slD m.ps))
  nd : (a :: K :: E :: L :: M :: S :: ms).Nodup
abbrev HL (a K E L M S : Addr) (ms : List Addr) : List Addr := a :: K :: E :: L :: M :: S :: ms
theorem hCs_len {d : Ad} {h : Hnd} : ∀ F : List Addr, F.length = 6 + h.marks.length → (hCs d h F).length = 6 + h.marks.length := fun F hF => by
  match F, hF with
  | _ :: K :: E :: L :: M :: S :: ms, hF => simp [hCs]; omega
  | [], hF => simp at hF; omega
  | [_], hF => simp at hF; omega
  | [_, _], hF => simp at hF; omega
  | [_, _, _], hF => simp at hF; omega
  | [_, _, _, _], hF => simp at hF; omega
  | [_, _, _, _, _], hF => simp at hF; omega
structure OpH (d : Ad) (W W1 : Wd) (a K E L M S : Addr) (ms : List Addr) (h : Hnd) : Prop where
  i : HandIn d W1 a K E L M S ms h
  out : ∀ b ∈ K :: E :: L :: M :: S :: ms, W b = none
  fr : ∀ b, b ∉ HL a K E L M S ms → W1 b = W b
theorem hand_close {d : Ad} {W W1 : Wd} {a K E L M S : Addr} {ms : List Addr} {h : Hnd} (g : HandIn d W1 a K E L M S ms h) (hf : ∀ b ∈ K :: E :: L :: M :: S :: ms, W b = none) (ho : ∀ b c, b ∉ HL a K E L M S ms → W b = some c → W1 b = some c) : Vs W1 (wset W a (handC d h)) := by
  have hl : (HL a K E L M S ms).length = 6 + h.marks.length := by simp [g.ln]; omega
  refine closeC (F := HL a K E L M S ms) hl (hCs_len _ hl) g.nd rfl (fun b hb hne => hf b (by simpa [hne] using hb)) (fun i b c hb hc => ?_) ho
  match i, hb, hc with
  | 0, hb, hc => cases hb; cases hc; exact g.ha
  | 1, hb, hc => cases hb; cases hc; exact g.hK
  | 2, hb, hc => cases hb; cases hc; exact g.hE
  | 3, hb, hc => cases hb; cases hc; exact g.hL
  | 4, hb, hc => cases hb; cases hc; exact g.hM
  | 5, hb, hc => cases hb; cases hc; exact g.hS
  | i + 6, hb, hc =>
    have hc : (h.marks.map fun m => Cell.dct (slD m.ps))[i]? = some c := hc
    rw [List.getElem?_map] at hc
    obtain ⟨m, hm, rfl⟩ := Option.map_eq_some_iff.mp hc
    exact g.at' i b m hb hm
section
variable {d : Ad} {W W1 : Wd} {a K E L M S q : Addr} {ms : List Addr} {h : Hnd}
theorem HandIn.n (g : HandIn d W1 a K E L M S ms h) : (a ≠ K ∧ a ≠ E ∧ a ≠ L ∧ a ≠ M ∧ a ≠ S) ∧ (K ≠ E ∧ K ≠ L ∧ K ≠ M ∧ K ≠ S) ∧ (E ≠ L ∧ E ≠ M ∧ E ≠ S) ∧ (L ≠ M ∧ L ≠ S) ∧ M ≠ S ∧ (∀ m ∈ ms, m ≠ a ∧ m ≠ K ∧ m ≠ E ∧ m ≠ L ∧ m ≠ M ∧ m ≠ S) ∧ ms.Nodup := by
  have nd := g.nd
  simp only [List.nodup_cons, List.mem_cons, not_or] at nd
  obtain ⟨⟨a1, a2, a3, a4, a5, a6⟩, ⟨b1, b2, b3, b4, b5⟩, ⟨c1, c2, c3, c4⟩, ⟨d1, d2, d3⟩, ⟨e1, e2⟩, f1, f2⟩ := nd
  exact ⟨⟨a1, a2, a3, a4, a5⟩, ⟨b1, b2, b3, b4⟩, ⟨c1, c2, c3⟩, ⟨d1, d2⟩, e1, fun m hm => ⟨fun z => a6 (z ▸ hm), fun z => b5 (z ▸ hm), fun z => c4 (z ▸ hm), fun z => d3 (z ▸ hm), fun z => e2 (z ▸ hm), fun z => f1 (z ▸ hm)⟩, f2⟩
theorem HandIn.of (g : HandIn d W1 a K E L M S ms h) : ∀ x ∈ HL a K E L M S ms, ∃ c, W1 x = some c := fun x hx => by
  simp only [List.mem_cons] at hx
  rcases hx with rfl | rfl | rfl | rfl | rfl | rfl | hx
  · exact ⟨_, g.ha⟩
  · exact ⟨_, g.hK⟩
  · exact ⟨_, g.hE⟩
  · exact ⟨_, g.hL⟩
  · exact ⟨_, g.hM⟩
  · exact ⟨_, g.hS⟩
  · obtain ⟨i, hi⟩ := List.getElem?_of_mem hx
    have hlt := (List.getElem?_eq_some_iff.mp hi).1
    exact ⟨_, g.at' i x _ hi (List.getElem?_eq_getElem (by rw [← g.ln]; exact hlt))⟩
theorem HandIn.new (g : HandIn d W1 a K E L M S ms h) (hq : W1 q = none) : ∀ b ∈ HL a K E L M S ms, b ≠ q := fun b hb w => by
  obtain ⟨c, hc⟩ := g.of b hb
  rw [w, hq] at hc; cases hc
theorem HandIn.other (g : HandIn d W1 a K E L M S ms h) (hq : ∀ b ∈ HL a K E L M S ms, b ≠ q) (c : Cell) : HandIn d (wset W1 q c) a K E L M S ms h :=
  ⟨by rw [ws_ne (hq a (by simp))]; exact g.ha, by rw [ws_ne (hq K (by simp))]; exact g.hK, by rw [ws_ne (hq E (by simp))]; exact g.hE, by rw [ws_ne (hq L (by simp))]; exact g.hL, by rw [ws_ne (hq M (by simp))]; exact g.hM, by rw [ws_ne (hq S (by simp))]; exact g.hS, g.ln, fun i b m hb hm => by rw [ws_ne (hq b (by simp [List.mem_of_getElem? hb]))]; exact g.at' i b m hb hm, g.nd⟩
end
end
set_option Elab.async false
set_option linter.all false
set_option maxRecDepth 100000
set_option maxHeartbeats 400000
set_option autoImplicit false
section
open PySem L2
local macro_rules | `(tactic| walk_at "set") => `(tactic| ((try simp only [List.set_cons_succ, List.set_cons_zero]); rfl))
local macro_rules | `(tactic| walk_at "sc") => `(tactic| first | assumption | decide | omega | (unfold CMul; omega) | (unfold CDiv; omega) | (unfold CPow; decide) | (unfold CDiv; decide))
local macro_rules | `(tactic| walk_at "go") => `(tactic| (repeat (first | walk_at "step" | walk_at "callx")))
local macro_rules | `(tactic| walk_at "goN") => `(tactic| (repeat (first | walk_at "step" | walk_at "callx" | ((with_reducible show ∀ p, _ = none → _); walk_at "new"))))
local macro_rules | `(tactic| walk_at "len") => `(tactic| first
  | (obtain ⟨rfl, _⟩ := h; rfl) | (obtain ⟨_, rfl, _⟩ := h; rfl) | (obtain ⟨_, _, rfl, _⟩ := h; rfl) | (obtain ⟨_, _, _, rfl, _⟩ := h; rfl) | (obtain ⟨_, _, _, _, rfl, _⟩ := h; rfl)
  | (obtain ⟨_, _, _, _, _, rfl, _⟩ := h; rfl) | (obtain ⟨_, _, _, _, _, _, rfl, _⟩ := h; rfl) | (obtain ⟨_, _, _, _, _, _, _, rfl, _⟩ := h; rfl) | (obtain ⟨_, _, _, _, _, _, _, _, rfl, _⟩ := h; rfl)
  | (obtain ⟨_, _, _, _, _, _, _, _, _, rfl, _⟩ := h; rfl) | (obtain ⟨_, _, _, _, _, _, _, _, _, _, rfl, _⟩ := h; rfl))
local macro_rules | `(tactic| walk_at "dd") => `(tactic| first | with_reducible assumption | ((with_reducible refine' DctD.own ?h); (case h => walk_at "wk")) | ((with_reducible refine' DctD.lock ?h); (case h => walk_at "wk")))
local macro_rules | `(tactic| walk_at "mat") => `(tactic| first | ((with_reducible refine' MAt.ins ?h ?l); (case h => walk_at "wk"); (case l => rfl)) | ((with_reducible refine' log_mat ?h ?l ?l2); (case h => walk_at "wk"); (case l => decide +kernel); (case l2 => decide +kernel)))
local macro_rules | `(tactic| walk_at "isim") => `(tactic| first | ((with_reducible refine' m_isi_let_ ?t ?k ?h ?e ?_); (case t => assumption); (case e => assumption); (case h => rfl)) | ((with_reducible refine' m_isi_rk ?t ?k ?h ?e ?_); (case t => assumption); (case e => assumption); (case h => rfl)) | ((with_reducible refine' m_isi_take ?t ?k ?h ?e ?_); (case t => assumption); (case e => assumption); (case h => rfl)) | ((with_reducible refine' m_isi_put ?t ?k ?h ?e ?_); (case t => assumption); (case e => assumption); (case h => rfl)) | ((with_reducible refine' m_isi_throw ?t ?k ?h ?e ?_); (case t => assumption); (case e => assumption); (case h => rfl)) | ((with_reducible refine' m_isi_iff ?t ?k ?h ?e ?_); (case t => assumption); (case e => assumption); (case h => rfl)) | ((with_reducible refine' m_isi_eith ?t ?k ?h ?e ?_); (case t => assumption); (case e => assumption); (case h => rfl)) | ((with_reducible refine' m_isi_tryy ?t ?k ?h ?e ?_); (case t => assumption); (case e => assumption); (case h => rfl)))
def lastIx {α : Type} (p : α → Bool) : List α → Option Nat
  | [] => none
  | x :: r => match lastIx p r with
    | some k => some (k + 1)
    | none => if p x = true then some 0 else none
section
variable {α : Type} {p : α → Bool}
theorem lastIx_of : ∀ {l : List α} {k : Nat}, lastIx p l = some k → ∃ x, l[k]? = some x ∧ p x = true ∧ ∀ (j : Nat) (y : α), k < j → l[j]? = some y → p y = false
  | [], k, h => by simp [lastIx] at h
  | x :: r, k, h => by
    rw [lastIx] at h
    cases e : lastIx p r with
    | some m =>
      rw [e] at h
      cases h
      obtain ⟨y, h1, h2, h3⟩ := lastIx_of e
      refine ⟨y, h1, h2, fun j z hj hz => ?_⟩
      match j, hj, hz with
      | j + 1, hj, hz => exact h3 j z (by omega) hz
    | none =>
      rw [e] at h
      by_cases hx : p x = true
      · have h : (if p x = true then some 0 else none) = some k := h
        rw [if_pos hx] at h
        cases h
        refine ⟨x, rfl, hx, fun j z hj hz => ?_⟩
        match j, hj, hz with
        | j + 1, hj, hz =>
          have hz : r[j]? = some z := hz
          cases q : p z with
          | false => rfl
          | true =>
            exfalso
            have : ∀ {l : List α} {j : Nat} {z : α}, l[j]? = some z → p z = true → lastIx p l ≠ none := by
              intro l
              induction l with
              | nil => intro j z h; simp at h
              | cons a l ih =>
                intro j z h hq
                rw [lastIx]
                cases e2 : lastIx p l with
                | some m => intro w; cases w
                | none =>
                  cases j with
                  | zero => cases h; show (if p a = true then some 0 else none) ≠ none; rw [if_pos hq]; intro w; cases w
                  | succ j => exact (ih (j := j) h hq e2).elim
            exact this hz q e
      · have h : (if p x = true then some 0 else none) = some k := h
        rw [if_neg hx] at h; cases h
end
def isE (m : Mrk) : Bool := decide (m.kd = "either")
def isG (n : Str) (m : Mrk) : Bool := decide (m.kd = "guard") && decide (m.nm = n)
def Hnd.renew (h : Hnd) : Hnd := { h with pc := 0, s := ⟨h.kept, [[]], []⟩, marks := [], seals := [] }
def Hnd.fin (h : Hnd) : Hnd := if h.now = h.dd.length then { h with mood := "ended" } else h
def Hnd.goOn (h : Hnd) : Hnd := (Hnd.renew { h with now := h.now + 1 }).fin
def Hnd.wake (h : Hnd) : Hnd := Hnd.renew { h with mood := "awake" }
def Hnd.init (dd : List Rows) : Hnd := (Hnd.renew ⟨dd, 0, List.replicate 8 0, "awake", 0, ⟨[], [], []⟩, [], []⟩).fin
def Hnd.leave (k : Nat) (h : Hnd) : Hnd :=
  match h.marks[k]? with
  | some m => { h with marks := h.marks.take k, s := ⟨m.ps, h.s.ts.take (k + 1), h.s.sn⟩, pc := m.tg }
  | none => h
def Hnd.hold (kd nm lt : Str) (tg : Nat) (h : Hnd) : Hnd := { h with marks := h.marks ++ [⟨kd, nm, lt, tg, h.s.ps⟩], s := { h.s with ts := h.s.ts ++ [[]] } }
def Hnd.catch (k : Nat) (v : Int) (h : Hnd) : Hnd :=
  match h.marks[k]? with
  | some m => { h.leave k with s := (h.leave k).s.give m.lt v }
  | none => h
inductive Rw
  | let_ (s : Str) (v : Int) | rk (w s o t : Str) | take (s p : Str) | put (p s : Str) | thr (n s : Str) | wait | unl (s : Str) (m : Nat) | jmp (k : Nat) | eit (m : Nat) | grd (n s : Str) (m : Nat) | stl | lay
def rowV : Rw → List V
  | .let_ s v => [.str "let", .str s, .int v]
  | .rk w s o t => [.str w, .str s, .str o, .str t]
  | .take s p => [.str "take", .str s, .str p]
  | .put p s => [.str "put", .str p, .str s]
  | .thr n s => [.str "throw", .str n, .str s]
  | .wait => [.str "wait"]
  | .unl s m => [.str "unless", .str s, .int (m : Nat)]
  | .jmp k => [.str "jump", .int (k : Nat)]
  | .eit m => [.str "either", .int (m : Nat)]
  | .grd n s m => [.str "guard", .str n, .str s, .int (m : Nat)]
  | .stl => [.str "settle"]
  | .lay => [.str "lay"]
def plainH : Rw → Hnd → Hnd
  | .let_ s v, h => { h with pc := h.pc + 1, s := h.s.give s v }
  | .rk w s o t, h => { h with pc := h.pc + 1, s := h.s.give s (rkn w (lk h.s o) (lk h.s t)) }
  | .unl s m, h => { h with pc := if lk h.s s = 0 then m else h.pc + 1 }
  | .jmp k, h => { h with pc := k }
  | .eit m, h => Hnd.hold "either" "" "" m { h with pc := h.pc + 1 }
  | .grd n s m, h => Hnd.hold "guard" n s m { h with pc := h.pc + 1 }
  | .stl, h => { h with pc := h.pc + 1, marks := h.marks.dropLast, s := { h.s with ts := settleT h.s.ts } }
  | _, h => h
local macro_rules | `(tactic| walk_at "callm") => `(tactic| fail)
section
variable {d : Ad} {vs : List V} {H : Hp} {Q : VK} {E : XK}
end
end
set_option Elab.async false
set_option linter.all false
set_option maxRecDepth 100000
set_option maxHeartbeats 400000
set_option autoImplicit false
section
open PySem L2
local macro_rules | `(tactic| walk_at "set") => `(tactic| ((try simp only [List.set_cons_succ, List.set_cons_zero]); rfl))
local macro_rules | `(tactic| walk_at "sc") => `(tactic| first | assumption | decide | omega | (unfold CMul; omega) | (unfold CDiv; omega) | (unfold CPow; decide) | (unfold CDiv; decide))
local macro_rules | `(tactic| walk_at "go") => `(tactic| (repeat (first | walk_at "step" | walk_at "callx")))
local macro_rules | `(tactic| walk_at "goN") => `(tactic| (repeat (first | walk_at "step" | walk_at "callx" | ((with_reducible show ∀ p, _ = none → _); walk_at "new"))))
local macro_rules | `(tactic| walk_at "len") => `(tactic| first
  | (obtain ⟨rfl, _⟩ := h; rfl) | (obtain ⟨_, rfl, _⟩ := h; rfl) | (obtain ⟨_, _, rfl, _⟩ := h; rfl) | (obtain ⟨_, _, _, rfl, _⟩ := h; rfl) | (obtain ⟨_, _, _, _, rfl, _⟩ := h; rfl)
  | (obtain ⟨_, _, _, _, _, rfl, _⟩ := h; rfl) | (obtain ⟨_, _, _, _, _, _, rfl, _⟩ := h; rfl) | (obtain ⟨_, _, _, _, _, _, _, rfl, _⟩ := h; rfl) | (obtain ⟨_, _, _, _, _, _, _, _, rfl, _⟩ := h; rfl)
  | (obtain ⟨_, _, _, _, _, _, _, _, _, rfl, _⟩ := h; rfl) | (obtain ⟨_, _, _, _, _, _, _, _, _, _, rfl, _⟩ := h; rfl))
local macro_rules | `(tactic| walk_at "dd") => `(tactic| first | with_reducible assumption | ((with_reducible refine' DctD.own ?h); (case h => walk_at "wk")) | ((with_reducible refine' DctD.lock ?h); (case h => walk_at "wk")))
local macro_rules | `(tactic| walk_at "mat") => `(tactic| first | ((with_reducible refine' MAt.ins ?h ?l); (case h => walk_at "wk"); (case l => rfl)) | ((with_reducible refine' log_mat ?h ?l ?l2); (case h => walk_at "wk"); (case l => decide +kernel); (case l2 => decide +kernel)))
local macro_rules | `(tactic| walk_at "isim") => `(tactic| first | ((with_reducible refine' m_isi_let_ ?t ?k ?h ?e ?_); (case t => assumption); (case e => assumption); (case h => rfl)) | ((with_reducible refine' m_isi_rk ?t ?k ?h ?e ?_); (case t => assumption); (case e => assumption); (case h => rfl)) | ((with_reducible refine' m_isi_take ?t ?k ?h ?e ?_); (case t => assumption); (case e => assumption); (case h => rfl)) | ((with_reducible refine' m_isi_put ?t ?k ?h ?e ?_); (case t => assumption); (case e => assumption); (case h => rfl)) | ((with_reducible refine' m_isi_throw ?t ?k ?h ?e ?_); (case t => assumption); (case e => assumption); (case h => rfl)) | ((with_reducible refine' m_isi_iff ?t ?k ?h ?e ?_); (case t => assumption); (case e => assumption); (case h => rfl)) | ((with_reducible refine' m_isi_eith ?t ?k ?h ?e ?_); (case t => assumption); (case e => assumption); (case h => rfl)) | ((with_reducible refine' m_isi_tryy ?t ?k ?h ?e ?_); (case t => assumption); (case e => assumption); (case h => rfl)))
local macro_rules | `(tactic| walk_at "callm") => `(tactic| ((with_reducible refine' d_mat (hand_mat ?h ?n) ?_); (case h => walk_at "wk"); (case n => decide)))
section
variable {d : Ad} {vs : List V} {H : Hp} {Q : VK} {E : XK}
end
end
set_option Elab.async false
set_option linter.all false
set_option maxRecDepth 100000
set_option maxHeartbeats 400000
set_option autoImplicit false
section
open PySem L2
local macro_rules | `(tactic| walk_at "set") => `(tactic| ((try simp only [List.set_cons_succ, List.set_cons_zero]); rfl))
local macro_rules | `(tactic| walk_at "sc") => `(tactic| first | assumption | decide | omega | (unfold CMul; omega) | (unfold CDiv; omega) | (unfold CPow; decide) | (unfold CDiv; decide))
local macro_rules | `(tactic| walk_at "go") => `(tactic| (repeat (first | walk_at "step" | walk_at "callx")))
local macro_rules | `(tactic| walk_at "goN") => `(tactic| (repeat (first | walk_at "step" | walk_at "callx" | ((with_reducible show ∀ p, _ = none → _); walk_at "new"))))
local macro_rules | `(tactic| walk_at "len") => `(tactic| first
  | (obtain ⟨rfl, _⟩ := h; rfl) | (obtain ⟨_, rfl, _⟩ := h; rfl) | (obtain ⟨_, _, rfl, _⟩ := h; rfl) | (obtain ⟨_, _, _, rfl, _⟩ := h; rfl) | (obtain ⟨_, _, _, _, rfl, _⟩ := h; rfl)
  | (obtain ⟨_, _, _, _, _, rfl, _⟩ := h; rfl) | (obtain ⟨_, _, _, _, _, _, rfl, _⟩ := h; rfl) | (obtain ⟨_, _, _, _, _, _, _, rfl, _⟩ := h; rfl) | (obtain ⟨_, _, _, _, _, _, _, _, rfl, _⟩ := h; rfl)
  | (obtain ⟨_, _, _, _, _, _, _, _, _, rfl, _⟩ := h; rfl) | (obtain ⟨_, _, _, _, _, _, _, _, _, _, rfl, _⟩ := h; rfl))
local macro_rules | `(tactic| walk_at "dd") => `(tactic| first | with_reducible assumption | ((with_reducible refine' DctD.own ?h); (case h => walk_at "wk")) | ((with_reducible refine' DctD.lock ?h); (case h => walk_at "wk")))
local macro_rules | `(tactic| walk_at "mat") => `(tactic| first | ((with_reducible refine' MAt.ins ?h ?l); (case h => walk_at "wk"); (case l => rfl)) | ((with_reducible refine' log_mat ?h ?l ?l2); (case h => walk_at "wk"); (case l => decide +kernel); (case l2 => decide +kernel)))
local macro_rules | `(tactic| walk_at "isim") => `(tactic| first | ((with_reducible refine' m_isi_let_ ?t ?k ?h ?e ?_); (case t => assumption); (case e => assumption); (case h => rfl)) | ((with_reducible refine' m_isi_rk ?t ?k ?h ?e ?_); (case t => assumption); (case e => assumption); (case h => rfl)) | ((with_reducible refine' m_isi_take ?t ?k ?h ?e ?_); (case t => assumption); (case e => assumption); (case h => rfl)) | ((with_reducible refine' m_isi_put ?t ?k ?h ?e ?_); (case t => assumption); (case e => assumption); (case h => rfl)) | ((with_reducible refine' m_isi_throw ?t ?k ?h ?e ?_); (case t => assumption); (case e => assumption); (case h => rfl)) | ((with_reducible refine' m_isi_iff ?t ?k ?h ?e ?_); (case t => assumption); (case e => assumption); (case h => rfl)) | ((with_reducible refine' m_isi_eith ?t ?k ?h ?e ?_); (case t => assumption); (case e => assumption); (case h => rfl)) | ((with_reducible refine' m_isi_tryy ?t ?k ?h ?e ?_); (case t => assumption); (case e => assumption); (case h => rfl)))
local macro_rules | `(tactic| walk_at "callm") => `(tactic| ((with_reducible refine' d_mat (hand_mat ?h ?n) ?_); (case h => walk_at "wk"); (case n => decide)))
section
variable {d : Ad} {vs : List V} {H : Hp} {Q : VK} {E : XK}
end
end
set_option Elab.async false
set_option linter.all false
set_option maxRecDepth 100000
set_option maxHeartbeats 400000
set_option autoImplicit false
section
open PySem L2
local macro_rules | `(tactic| walk_at "set") => `(tactic| ((try simp only [List.set_cons_succ, List.set_cons_zero]); rfl))
local macro_rules | `(tactic| walk_at "sc") => `(tactic| first | assumption | decide | omega | (unfold CMul; omega) | (unfold CDiv; omega) | (unfold CPow; decide) | (unfold CDiv; decide))
local macro_rules | `(tactic| walk_at "go") => `(tactic| (repeat (first | walk_at "step" | walk_at "callx")))
local macro_rules | `(tactic| walk_at "goN") => `(tactic| (repeat (first | walk_at "step" | walk_at "callx" | ((with_reducible show ∀ p, _ = none → _); walk_at "new"))))
local macro_rules | `(tactic| walk_at "len") => `(tactic| first
  | (obtain ⟨rfl, _⟩ := h; rfl) | (obtain ⟨_, rfl, _⟩ := h; rfl) | (obtain ⟨_, _, rfl, _⟩ := h; rfl) | (obtain ⟨_, _, _, rfl, _⟩ := h; rfl) | (obtain ⟨_, _, _, _, rfl, _⟩ := h; rfl)
  | (obtain ⟨_, _, _, _, _, rfl, _⟩ := h; rfl) | (obtain ⟨_, _, _, _, _, _, rfl, _⟩ := h; rfl) | (obtain ⟨_, _, _, _, _, _, _, rfl, _⟩ := h; rfl) | (obtain ⟨_, _, _, _, _, _, _, _, rfl, _⟩ := h; rfl)
  | (obtain ⟨_, _, _, _, _, _, _, _, _, rfl, _⟩ := h; rfl) | (obtain ⟨_, _, _, _, _, _, _, _, _, _, rfl, _⟩ := h; rfl))
local macro_rules | `(tactic| walk_at "dd") => `(tactic| first | with_reducible assumption | ((with_reducible refine' DctD.own ?h); (case h => walk_at "wk")) | ((with_reducible refine' DctD.lock ?h); (case h => walk_at "wk")))
local macro_rules | `(tactic| walk_at "mat") => `(tactic| first | ((with_reducible refine' MAt.ins ?h ?l); (case h => walk_at "wk"); (case l => rfl)) | ((with_reducible refine' log_mat ?h ?l ?l2); (case h => walk_at "wk"); (case l => decide +kernel); (case l2 => decide +kernel)))
local macro_rules | `(tactic| walk_at "isim") => `(tactic| first | ((with_reducible refine' m_isi_let_ ?t ?k ?h ?e ?_); (case t => assumption); (case e => assumption); (case h => rfl)) | ((with_reducible refine' m_isi_rk ?t ?k ?h ?e ?_); (case t => assumption); (case e => assumption); (case h => rfl)) | ((with_reducible refine' m_isi_take ?t ?k ?h ?e ?_); (case t => assumption); (case e => assumption); (case h => rfl)) | ((with_reducible refine' m_isi_put ?t ?k ?h ?e ?_); (case t => assumption); (case e => assumption); (case h => rfl)) | ((with_reducible refine' m_isi_throw ?t ?k ?h ?e ?_); (case t => assumption); (case e => assumption); (case h => rfl)) | ((with_reducible refine' m_isi_iff ?t ?k ?h ?e ?_); (case t => assumption); (case e => assumption); (case h => rfl)) | ((with_reducible refine' m_isi_eith ?t ?k ?h ?e ?_); (case t => assumption); (case e => assumption); (case h => rfl)) | ((with_reducible refine' m_isi_tryy ?t ?k ?h ?e ?_); (case t => assumption); (case e => assumption); (case h => rfl)))
structure Ent where
  hand : Nat
  now : Nat
  e : Option (Str × Int)
  saw : List (Int × Int)
  wrote : List (Int × Int)
  nums : List Int
structure HallM where
  people : List Hnd
  ins : List Int
  laid : List Int
  book : List Ent
inductive TR | idle | gone (n : Nat) | seen (n : Nat) (b v : Int) | asleep (n : Nat) | fell (n : Nat) | done (n : Nat) | anew (n : Nat)
def turD : TR → D
  | .idle => .tup [.raw (.str "idle")]
  | .gone n => .tup [.raw (.str "gone"), .raw (.int (n : Nat))]
  | .seen n b v => .tup [.raw (.str "seen"), .raw (.int (n : Nat)), .raw (.int b), .raw (.int v)]
  | .asleep n => .tup [.raw (.str "asleep"), .raw (.int (n : Nat))]
  | .fell n => .tup [.raw (.str "fell"), .raw (.int (n : Nat))]
  | .done n => .tup [.raw (.str "done"), .raw (.int (n : Nat))]
  | .anew n => .tup [.raw (.str "anew"), .raw (.int (n : Nat))]
abbrev prsD (l : List (Int × Int)) : List D := l.map fun p => .tup [.raw (.int p.1), .raw (.int p.2)]
def endT : Option (Str × Int) → D
  | none => .tup [.raw (.str "done")]
  | some (n, v) => .tup [.raw (.str "fell"), .raw (.str n), .raw (.int v)]
def entD (e : Ent) : D := .tup [.raw (.int (e.hand : Nat)), .raw (.int (e.now : Nat)), endT e.e, .lst (prsD e.saw), .lst (prsD e.wrote), .lst (e.nums.map D.int)]
def HallM.setH (S : HallM) (i : Nat) (h : Hnd) : HallM := { S with people := S.people.set i h }
def staleB (laid : List Int) (sl : Dm) : Bool := (keysM sl).any fun b => decide ((dget sl b).getD 0 ≠ laid.getD b.toNat 0)
def outB (ins : List Int) (h : Hnd) : Rw → Bool
  | .take _ p => (ownM h.s.ts (bxAt ins h.s p)).isNone
  | .wait => (lastIx isE h.marks).isNone
  | .thr n _ => (lastIx (isG n) h.marks).isNone
  | .lay => true
  | _ => false
def takenM (S : HallM) (i : Nat) (h : Hnd) (s p : Str) : TR × HallM :=
  let b := bxAt S.ins h.s p
  match ownM h.s.ts b with
  | some v => (.gone h.pc, S.setH i { h with pc := h.pc + 1, s := takeS S.ins h.s s p })
  | none => (.seen h.pc b (S.ins.getD b.toNat 0), S.setH i { h with pc := h.pc + 1, s := takeS S.ins h.s s p, seals := dput h.seals b (S.laid.getD b.toNat 0) })
def waitedM (S : HallM) (i : Nat) (h : Hnd) : TR × HallM :=
  match lastIx isE h.marks with
  | none => (.asleep h.pc, S.setH i { h with mood := "asleep" })
  | some k => (.gone h.pc, S.setH i (h.leave k))
def recM (S : HallM) (i : Nat) (h : Hnd) (e : Option (Str × Int)) (wr : List (Int × Int)) : HallM := { S with book := S.book ++ [⟨i, h.now, e, bx h.s.sn, wr, h.s.ps⟩] }
def thrownM (S : HallM) (i : Nat) (h : Hnd) (n s : Str) : TR × HallM :=
  match lastIx (isG n) h.marks with
  | none => (.fell h.pc, (recM (S.setH i { h with s := { h.s with ps := h.kept } }) i { h with s := { h.s with ps := h.kept } } (some (n, lk h.s s)) []).setH i (Hnd.goOn { h with s := { h.s with ps := h.kept } }))
  | some k => (.gone h.pc, S.setH i (h.catch k (lk h.s s)))
def wakeIf (wr : List (Int × Int)) (h : Hnd) : Hnd := if h.mood = "asleep" ∧ (wr.any fun p => (dget h.seals p.1).isSome) = true then h.wake else h
def putL (l : List Int) (wr : List (Int × Int)) : List Int := wr.foldl (fun l p => l.set p.1.toNat p.2) l
def upL (l : List Int) (wr : List (Int × Int)) : List Int := wr.foldl (fun l p => l.set p.1.toNat (l.getD p.1.toNat 0 + 1)) l
def layM (S : HallM) (i : Nat) (h : Hnd) : TR × HallM :=
  let wr := bx (h.s.ts.headD [])
  let S1 : HallM := { S with ins := putL S.ins wr, laid := upL S.laid wr }
  let S2 := (recM S1 i h none wr).setH i { h with kept := h.s.ps }
  (.done h.pc, { S2 with people := (S2.people.map (wakeIf wr)).set i (Hnd.goOn { h with kept := h.s.ps }) })
def putM (S : HallM) (i : Nat) (h : Hnd) (p s : Str) : HallM := S.setH i { h with pc := h.pc + 1, s := { h.s with ts := topPut h.s.ts (bxAt S.ins h.s p) (lk h.s s) } }
def goneM (S : HallM) (i : Nat) (h : Hnd) (R : Rw) : TR × HallM :=
  match R with
  | .take s p => takenM S i h s p
  | .wait => waitedM S i h
  | .thr n s => thrownM S i h n s
  | .lay => layM S i h
  | .put p s => (.gone h.pc, putM S i h p s)
  | _ => (.gone h.pc, S.setH i (plainH R h))
def rwOf : List V → Rw
  | [.str "let", .str s, .int v] => .let_ s v
  | [.str w, .str s, .str o, .str t] => .rk w s o t
  | _ => .lay
def turnR (S : HallM) (i : Nat) (h : Hnd) (R : Rw) : TR × HallM :=
  if h.mood ≠ "awake" then (.idle, S)
  else if (outB S.ins h R && staleB S.laid h.seals) = true then (.anew h.pc, S.setH i h.renew)
  else goneM S i h R
def RwOk : Rw → Prop
  | .let_ s v => Sl s ∧ Nm v
  | .rk w s o t => w ∈ five ∧ Sl s ∧ Sl o ∧ Sl t
  | .take s p => Sl s ∧ Sl p
  | .put p s => Sl p ∧ Sl s
  | .thr n s => NameOk n ∧ Sl s
  | .unl s _ => Sl s
  | .grd n s _ => NameOk n ∧ Sl s
  | .jmp _ | .eit _ | .wait | .stl | .lay => True
structure HndOk (nb : Nat) (h : Hnd) : Prop where
  s : OkS h.s (h.marks.length + 1)
  kp : h.kept.length = 8
  kn : ∀ v ∈ h.kept, Nm v
  tk : ∀ t ∈ h.s.ts, ∀ k ∈ keysM t, k < (nb : Nat)
  sl : KeysOk h.seals
  sk : ∀ k ∈ keysM h.seals, k < (nb : Nat)
  ml : h.marks.length ≤ 60
  mks : ∀ m ∈ h.marks, m.ps.length = 8 ∧ (∀ v ∈ m.ps, Nm v) ∧ (m.kd = "guard" → Sl m.lt)
structure AtR (h : Hnd) (R : Rw) : Prop where
  at' : ∃ rs, h.dd[h.now]? = some rs ∧ rs[h.pc]? = some (rowV R)
  ok : RwOk R
  st : R = .stl → h.marks ≠ []
  l0 : R = .lay → h.marks = []
structure HallOk (S : HallM) : Prop where
  b : OkB S.ins
  l : S.laid.length = S.ins.length
  bk : S.book.length < 1000
  hn : S.people.length ≤ 8
abbrev lF (P I J B : Addr) : List (Str × D) := [("people", .raw (.ref P)), ("inside", .raw (.ref I)), ("laid", .raw (.ref J)), ("book", .raw (.ref B))]
def lCs (d : Ad) (S : HallM) : List Addr → List Cell
  | _ :: P :: I :: J :: B :: hs => .ins d.cHall (lF P I J B) :: .lst (hs.map D.ptr) :: .lst (S.ins.map D.int) :: .lst (S.laid.map D.int) :: .lst (S.book.map entD) :: S.people.map (handC d)
  | _ => []
def hallC (d : Ad) (S : HallM) : Cell := cC (5 + S.people.length) (lCs d S)
structure HallIn (d : Ad) (W1 : Wd) (a P I J B : Addr) (hs : List Addr) (S : HallM) : Prop where
  ha : W1 a = some (.ins d.cHall (lF P I J B))
  hP : W1 P = some (.lst (hs.map D.ptr))
  hI : W1 I = some (.lst (S.ins.map D.int))
  hJ : W1 J = some (.lst (S.laid.map D.int))
  hB : W1 B = some (.lst (S.book.map entD))
  ln : hs.length = S.people.length
  at' : ∀ (i : Nat) (b : Addr) (h : Hnd), hs[i]? = some b → S.people[i]? = some h → W1 b = some (handC d h)
  nd : (a :: P :: I :: J :: B :: hs).Nodup
abbrev LL (a P I J B : Addr) (hs : List Addr) : List Addr := a :: P :: I :: J :: B :: hs
theorem lCs_len {d : Ad} {S : HallM} : ∀ F : List Addr, F.length = 5 + S.people.length → (lCs d S F).length = 5 + S.people.length := fun F hF => by
  match F, hF with
  | _ :: P :: I :: J :: B :: hs, hF => simp [lCs]; omega
  | [], hF => simp at hF; omega
  | [_], hF => simp at hF; omega
  | [_, _], hF => simp at hF; omega
  | [_, _, _], hF => simp at hF; omega
  | [_, _, _, _], hF => simp at hF; omega
structure OpL (d : Ad) (W W1 : Wd) (a P I J B : Addr) (hs : List Addr) (S : HallM) : Prop where
  i : HallIn d W1 a P I J B hs S
  out : ∀ b ∈ P :: I :: J :: B :: hs, W b = none
  fr : ∀ b, b ∉ LL a P I J B hs → W1 b = W b
theorem hall_close {d : Ad} {W W1 : Wd} {a P I J B : Addr} {hs : List Addr} {S : HallM} (g : HallIn d W1 a P I J B hs S) (hf : ∀ b ∈ P :: I :: J :: B :: hs, W b = none) (ho : ∀ b c, b ∉ LL a P I J B hs → W b = some c → W1 b = some c) : Vs W1 (wset W a (hallC d S)) := by
  have hl : (LL a P I J B hs).length = 5 + S.people.length := by simp [g.ln]; omega
  refine closeC (F := LL a P I J B hs) hl (lCs_len _ hl) g.nd rfl (fun b hb hne => hf b (by simpa [hne] using hb)) (fun i b c hb hc => ?_) ho
  match i, hb, hc with
  | 0, hb, hc => cases hb; cases hc; exact g.ha
  | 1, hb, hc => cases hb; cases hc; exact g.hP
  | 2, hb, hc => cases hb; cases hc; exact g.hI
  | 3, hb, hc => cases hb; cases hc; exact g.hJ
  | 4, hb, hc => cases hb; cases hc; exact g.hB
  | i + 5, hb, hc =>
    have hc : (S.people.map (handC d))[i]? = some c := hc
    rw [List.getElem?_map] at hc
    obtain ⟨m, hm, rfl⟩ := Option.map_eq_some_iff.mp hc
    exact g.at' i b m hb hm
theorem OpL.new {d : Ad} {W W1 : Wd} {a P I J B q : Addr} {hs : List Addr} {S : HallM} {c : Cell} (o : OpL d W W1 a P I J B hs S) (hw : W a = some (hallC d S)) (hq : W1 q = none) : Vs (wset W1 q c) (wset W q c) ∧ W q = none := by
  have fr : ∀ b ∈ LL a P I J B hs, b ≠ q := fun b hb w => by
    have : ∃ c, W1 b = some c := by
      simp only [List.mem_cons] at hb
      rcases hb with rfl | rfl | rfl | rfl | rfl | hb
      · exact ⟨_, o.i.ha⟩
      · exact ⟨_, o.i.hP⟩
      · exact ⟨_, o.i.hI⟩
      · exact ⟨_, o.i.hJ⟩
      · exact ⟨_, o.i.hB⟩
      · obtain ⟨i, hi⟩ := List.getElem?_of_mem hb
        exact ⟨_, o.i.at' i b _ hi (List.getElem?_eq_getElem (by rw [← o.i.ln]; exact (List.getElem?_eq_some_iff.mp hi).1))⟩
    obtain ⟨c, hc⟩ := this
    rw [w, hq] at hc; cases hc
  have wq : W q = none := by rw [← o.fr q fun z => fr q z rfl]; exact hq
  refine ⟨?_, wq⟩
  have g2 : HallIn d (wset W1 q c) a P I J B hs S := ⟨by rw [ws_ne (fr a (by simp))]; exact o.i.ha, by rw [ws_ne (fr P (by simp))]; exact o.i.hP, by rw [ws_ne (fr I (by simp))]; exact o.i.hI, by rw [ws_ne (fr J (by simp))]; exact o.i.hJ, by rw [ws_ne (fr B (by simp))]; exact o.i.hB, o.i.ln, fun i b h hb hh => by rw [ws_ne (fr b (by simp [List.mem_of_getElem? hb]))]; exact o.i.at' i b h hb hh, o.i.nd⟩
  have := hall_close (W := wset W q c) g2 (fun b hb => by rw [ws_ne (fr b (List.mem_cons_of_mem _ hb))]; exact o.out b hb) fun b u hb hc => by
    by_cases z : b = q
    · subst z; rw [ws_same] at hc ⊢; exact hc
    · rw [ws_ne z] at hc ⊢; rw [o.fr b hb]; exact hc
  rwa [ws_id (W := wset W q c) (a := a) (by rw [ws_ne (fr a (by simp))]; exact hw)] at this
section
variable {d : Ad} {W W1 : Wd} {a P I J B q : Addr} {hs : List Addr} {S : HallM}
theorem HallIn.n (g : HallIn d W1 a P I J B hs S) : (a ≠ P ∧ a ≠ I ∧ a ≠ J ∧ a ≠ B) ∧ (P ≠ I ∧ P ≠ J ∧ P ≠ B) ∧ (I ≠ J ∧ I ≠ B) ∧ J ≠ B ∧ (∀ m ∈ hs, m ≠ a ∧ m ≠ P ∧ m ≠ I ∧ m ≠ J ∧ m ≠ B) ∧ hs.Nodup := by
  have nd := g.nd
  simp only [List.nodup_cons, List.mem_cons, not_or] at nd
  obtain ⟨⟨a1, a2, a3, a4, a6⟩, ⟨b1, b2, b3, b5⟩, ⟨c1, c2, c4⟩, ⟨d1, d3⟩, e2, f2⟩ := nd
  exact ⟨⟨a1, a2, a3, a4⟩, ⟨b1, b2, b3⟩, ⟨c1, c2⟩, d1, fun m hm => ⟨fun z => a6 (z ▸ hm), fun z => b5 (z ▸ hm), fun z => c4 (z ▸ hm), fun z => d3 (z ▸ hm), fun z => e2 (z ▸ hm)⟩, f2⟩
theorem nd_get {l : List Addr} (nd : l.Nodup) {i j : Nat} {x : Addr} (h1 : l[i]? = some x) (h2 : l[j]? = some x) : i = j := by
  have a1 := List.getElem?_eq_some_iff.mp h1
  have a2 := List.getElem?_eq_some_iff.mp h2
  have p := List.pairwise_iff_getElem.mp nd
  rcases Nat.lt_trichotomy i j with z | z | z
  · exact (p i j a1.1 a2.1 z (a1.2.trans a2.2.symm)).elim
  · exact z
  · exact (p j i a2.1 a1.1 z (a2.2.trans a1.2.symm)).elim
theorem HallIn.setH (g : HallIn d W1 a P I J B hs S) {i : Nat} {b : Addr} (hb : hs[i]? = some b) (h : Hnd) : HallIn d (wset W1 b (handC d h)) a P I J B hs (S.setH i h) := by
  obtain ⟨_, _, _, _, f, nd⟩ := g.n
  obtain ⟨f1, f2, f3, f4, f5⟩ := f b (List.mem_of_getElem? hb)
  refine ⟨by rw [ws_ne f1.symm]; exact g.ha, by rw [ws_ne f2.symm]; exact g.hP, by rw [ws_ne f3.symm]; exact g.hI, by rw [ws_ne f4.symm]; exact g.hJ, by rw [ws_ne f5.symm]; exact g.hB, by show hs.length = (S.people.set i h).length; rw [List.length_set]; exact g.ln, fun j x u hx hu => ?_, g.nd⟩
  have hu : (S.people.set i h)[j]? = some u := hu
  by_cases z : i = j
  · subst z
    rw [hb] at hx; cases hx
    rw [List.getElem?_set] at hu
    simp only [if_true] at hu
    split at hu
    · cases hu; exact ws_same
    · cases hu
  · rw [List.getElem?_set_ne z] at hu
    rw [ws_ne fun w => z (nd_get nd hb (by rw [w] at hx; exact hx))]
    exact g.at' j x u hx hu
end
end
set_option Elab.async false
set_option linter.all false
set_option maxRecDepth 100000
set_option maxHeartbeats 400000
set_option autoImplicit false
section
open PySem L2
local macro_rules | `(tactic| walk_at "set") => `(tactic| ((try simp only [List.set_cons_succ, List.set_cons_zero]); rfl))
local macro_rules | `(tactic| walk_at "sc") => `(tactic| first | assumption | decide | omega | (unfold CMul; omega) | (unfold CDiv; omega) | (unfold CPow; decide) | (unfold CDiv; decide))
local macro_rules | `(tactic| walk_at "go") => `(tactic| (repeat (first | walk_at "step" | walk_at "callx")))
local macro_rules | `(tactic| walk_at "goN") => `(tactic| (repeat (first | walk_at "step" | walk_at "callx" | ((with_reducible show ∀ p, _ = none → _); walk_at "new"))))
local macro_rules | `(tactic| walk_at "len") => `(tactic| first
  | (obtain ⟨rfl, _⟩ := h; rfl) | (obtain ⟨_, rfl, _⟩ := h; rfl) | (obtain ⟨_, _, rfl, _⟩ := h; rfl) | (obtain ⟨_, _, _, rfl, _⟩ := h; rfl) | (obtain ⟨_, _, _, _, rfl, _⟩ := h; rfl)
  | (obtain ⟨_, _, _, _, _, rfl, _⟩ := h; rfl) | (obtain ⟨_, _, _, _, _, _, rfl, _⟩ := h; rfl) | (obtain ⟨_, _, _, _, _, _, _, rfl, _⟩ := h; rfl) | (obtain ⟨_, _, _, _, _, _, _, _, rfl, _⟩ := h; rfl)
  | (obtain ⟨_, _, _, _, _, _, _, _, _, rfl, _⟩ := h; rfl) | (obtain ⟨_, _, _, _, _, _, _, _, _, _, rfl, _⟩ := h; rfl))
local macro_rules | `(tactic| walk_at "dd") => `(tactic| first | with_reducible assumption | ((with_reducible refine' DctD.own ?h); (case h => walk_at "wk")) | ((with_reducible refine' DctD.lock ?h); (case h => walk_at "wk")))
local macro_rules | `(tactic| walk_at "mat") => `(tactic| first | ((with_reducible refine' MAt.ins ?h ?l); (case h => walk_at "wk"); (case l => rfl)) | ((with_reducible refine' log_mat ?h ?l ?l2); (case h => walk_at "wk"); (case l => decide +kernel); (case l2 => decide +kernel)))
local macro_rules | `(tactic| walk_at "isim") => `(tactic| first | ((with_reducible refine' m_isi_let_ ?t ?k ?h ?e ?_); (case t => assumption); (case e => assumption); (case h => rfl)) | ((with_reducible refine' m_isi_rk ?t ?k ?h ?e ?_); (case t => assumption); (case e => assumption); (case h => rfl)) | ((with_reducible refine' m_isi_take ?t ?k ?h ?e ?_); (case t => assumption); (case e => assumption); (case h => rfl)) | ((with_reducible refine' m_isi_put ?t ?k ?h ?e ?_); (case t => assumption); (case e => assumption); (case h => rfl)) | ((with_reducible refine' m_isi_throw ?t ?k ?h ?e ?_); (case t => assumption); (case e => assumption); (case h => rfl)) | ((with_reducible refine' m_isi_iff ?t ?k ?h ?e ?_); (case t => assumption); (case e => assumption); (case h => rfl)) | ((with_reducible refine' m_isi_eith ?t ?k ?h ?e ?_); (case t => assumption); (case e => assumption); (case h => rfl)) | ((with_reducible refine' m_isi_tryy ?t ?k ?h ?e ?_); (case t => assumption); (case e => assumption); (case h => rfl)))
local macro_rules | `(tactic| walk_at "callm") => `(tactic| first | ((with_reducible refine' d_mat (hand_mat ?h ?n) ?_); (case h => walk_at "wk"); (case n => decide)) | ((with_reducible refine' d_mat (hall_mat ?h ?n) ?_); (case h => walk_at "wk"); (case n => decide)))
section
variable {d : Ad} {vs : List V} {H : Hp} {Q : VK} {E : XK}
end
end
set_option Elab.async false
set_option linter.all false
set_option maxRecDepth 100000
set_option maxHeartbeats 400000
set_option autoImplicit false
section
open PySem L2
local macro_rules | `(tactic| walk_at "set") => `(tactic| ((try simp only [List.set_cons_succ, List.set_cons_zero]); rfl))
local macro_rules | `(tactic| walk_at "sc") => `(tactic| first | assumption | decide | omega | (unfold CMul; omega) | (unfold CDiv; omega) | (unfold CPow; decide) | (unfold CDiv; decide))
local macro_rules | `(tactic| walk_at "go") => `(tactic| (repeat (first | walk_at "step" | walk_at "callx")))
local macro_rules | `(tactic| walk_at "goN") => `(tactic| (repeat (first | walk_at "step" | walk_at "callx" | ((with_reducible show ∀ p, _ = none → _); walk_at "new"))))
local macro_rules | `(tactic| walk_at "len") => `(tactic| first
  | (obtain ⟨rfl, _⟩ := h; rfl) | (obtain ⟨_, rfl, _⟩ := h; rfl) | (obtain ⟨_, _, rfl, _⟩ := h; rfl) | (obtain ⟨_, _, _, rfl, _⟩ := h; rfl) | (obtain ⟨_, _, _, _, rfl, _⟩ := h; rfl)
  | (obtain ⟨_, _, _, _, _, rfl, _⟩ := h; rfl) | (obtain ⟨_, _, _, _, _, _, rfl, _⟩ := h; rfl) | (obtain ⟨_, _, _, _, _, _, _, rfl, _⟩ := h; rfl) | (obtain ⟨_, _, _, _, _, _, _, _, rfl, _⟩ := h; rfl)
  | (obtain ⟨_, _, _, _, _, _, _, _, _, rfl, _⟩ := h; rfl) | (obtain ⟨_, _, _, _, _, _, _, _, _, _, rfl, _⟩ := h; rfl))
local macro_rules | `(tactic| walk_at "dd") => `(tactic| first | with_reducible assumption | ((with_reducible refine' DctD.own ?h); (case h => walk_at "wk")) | ((with_reducible refine' DctD.lock ?h); (case h => walk_at "wk")))
local macro_rules | `(tactic| walk_at "mat") => `(tactic| first | ((with_reducible refine' MAt.ins ?h ?l); (case h => walk_at "wk"); (case l => rfl)) | ((with_reducible refine' log_mat ?h ?l ?l2); (case h => walk_at "wk"); (case l => decide +kernel); (case l2 => decide +kernel)))
local macro_rules | `(tactic| walk_at "isim") => `(tactic| first | ((with_reducible refine' m_isi_let_ ?t ?k ?h ?e ?_); (case t => assumption); (case e => assumption); (case h => rfl)) | ((with_reducible refine' m_isi_rk ?t ?k ?h ?e ?_); (case t => assumption); (case e => assumption); (case h => rfl)) | ((with_reducible refine' m_isi_take ?t ?k ?h ?e ?_); (case t => assumption); (case e => assumption); (case h => rfl)) | ((with_reducible refine' m_isi_put ?t ?k ?h ?e ?_); (case t => assumption); (case e => assumption); (case h => rfl)) | ((with_reducible refine' m_isi_throw ?t ?k ?h ?e ?_); (case t => assumption); (case e => assumption); (case h => rfl)) | ((with_reducible refine' m_isi_iff ?t ?k ?h ?e ?_); (case t => assumption); (case e => assumption); (case h => rfl)) | ((with_reducible refine' m_isi_eith ?t ?k ?h ?e ?_); (case t => assumption); (case e => assumption); (case h => rfl)) | ((with_reducible refine' m_isi_tryy ?t ?k ?h ?e ?_); (case t => assumption); (case e => assumption); (case h => rfl)))
local macro_rules | `(tactic| walk_at "callm") => `(tactic| first | ((with_reducible refine' d_mat (hand_mat ?h ?n) ?_); (case h => walk_at "wk"); (case n => decide)) | ((with_reducible refine' d_mat (hall_mat ?h ?n) ?_); (case h => walk_at "wk"); (case n => decide)))
section
variable {d : Ad} {vs : List V} {H : Hp} {Q : VK} {E : XK}
end
end
set_option Elab.async false
set_option linter.all false
set_option maxRecDepth 100000
set_option maxHeartbeats 400000
set_option autoImplicit false
section
open PySem L2
local macro_rules | `(tactic| walk_at "set") => `(tactic| ((try simp only [List.set_cons_succ, List.set_cons_zero]); rfl))
local macro_rules | `(tactic| walk_at "sc") => `(tactic| first | assumption | decide | omega | (unfold CMul; omega) | (unfold CDiv; omega) | (unfold CPow; decide) | (unfold CDiv; decide))
local macro_rules | `(tactic| walk_at "go") => `(tactic| (repeat (first | walk_at "step" | walk_at "callx")))
local macro_rules | `(tactic| walk_at "goN") => `(tactic| (repeat (first | walk_at "step" | walk_at "callx" | ((with_reducible show ∀ p, _ = none → _); walk_at "new"))))
local macro_rules | `(tactic| walk_at "len") => `(tactic| first
  | (obtain ⟨rfl, _⟩ := h; rfl) | (obtain ⟨_, rfl, _⟩ := h; rfl) | (obtain ⟨_, _, rfl, _⟩ := h; rfl) | (obtain ⟨_, _, _, rfl, _⟩ := h; rfl) | (obtain ⟨_, _, _, _, rfl, _⟩ := h; rfl)
  | (obtain ⟨_, _, _, _, _, rfl, _⟩ := h; rfl) | (obtain ⟨_, _, _, _, _, _, rfl, _⟩ := h; rfl) | (obtain ⟨_, _, _, _, _, _, _, rfl, _⟩ := h; rfl) | (obtain ⟨_, _, _, _, _, _, _, _, rfl, _⟩ := h; rfl)
  | (obtain ⟨_, _, _, _, _, _, _, _, _, rfl, _⟩ := h; rfl) | (obtain ⟨_, _, _, _, _, _, _, _, _, _, rfl, _⟩ := h; rfl))
local macro_rules | `(tactic| walk_at "dd") => `(tactic| first | with_reducible assumption | ((with_reducible refine' DctD.own ?h); (case h => walk_at "wk")) | ((with_reducible refine' DctD.lock ?h); (case h => walk_at "wk")))
local macro_rules | `(tactic| walk_at "mat") => `(tactic| first | ((with_reducible refine' MAt.ins ?h ?l); (case h => walk_at "wk"); (case l => rfl)) | ((with_reducible refine' log_mat ?h ?l ?l2); (case h => walk_at "wk"); (case l => decide +kernel); (case l2 => decide +kernel)))
local macro_rules | `(tactic| walk_at "isim") => `(tactic| first | ((with_reducible refine' m_isi_let_ ?t ?k ?h ?e ?_); (case t => assumption); (case e => assumption); (case h => rfl)) | ((with_reducible refine' m_isi_rk ?t ?k ?h ?e ?_); (case t => assumption); (case e => assumption); (case h => rfl)) | ((with_reducible refine' m_isi_take ?t ?k ?h ?e ?_); (case t => assumption); (case e => assumption); (case h => rfl)) | ((with_reducible refine' m_isi_put ?t ?k ?h ?e ?_); (case t => assumption); (case e => assumption); (case h => rfl)) | ((with_reducible refine' m_isi_throw ?t ?k ?h ?e ?_); (case t => assumption); (case e => assumption); (case h => rfl)) | ((with_reducible refine' m_isi_iff ?t ?k ?h ?e ?_); (case t => assumption); (case e => assumption); (case h => rfl)) | ((with_reducible refine' m_isi_eith ?t ?k ?h ?e ?_); (case t => assumption); (case e => assumption); (case h => rfl)) | ((with_reducible refine' m_isi_tryy ?t ?k ?h ?e ?_); (case t => assumption); (case e => assumption); (case h => rfl)))
def p_Hall_turn (d : Ad) : PF := fun ds W Q => ∃ (A : Addr) (S : HallM) (i : Nat) (h : Hnd) (R : Rw), ds = [.ptr A, .int (i : Nat)] ∧ W A = some (hallC d S) ∧ S.people[i]? = some h ∧ HallOk S ∧ HndOk S.ins.length h ∧ (h.mood = "awake" → AtR h R) ∧ Q (turD (turnR S i h R).1) (wset W A (hallC d (turnR S i h R).2))
local macro_rules | `(tactic| walk_at "callm") => `(tactic| first | ((with_reducible refine' d_mat (hand_mat ?h ?n) ?_); (case h => walk_at "wk"); (case n => decide)) | ((with_reducible refine' d_mat (hall_mat ?h ?n) ?_); (case h => walk_at "wk"); (case n => decide)))
section
variable {d : Ad} {vs : List V} {H : Hp} {Q : VK} {E : XK}
theorem OpH.new {W W1 : Wd} {a K E L M S q : Addr} {ms : List Addr} {h : Hnd} {c : Cell} (o : OpH d W W1 a K E L M S ms h) (hw : W a = some (handC d h)) (hq : W1 q = none) : Vs (wset W1 q c) (wset W q c) ∧ W q = none := by
  have fr := o.i.new hq
  have g2 := o.i.other fr c
  have wq : W q = none := by rw [← o.fr q fun z => fr q z rfl]; exact hq
  refine ⟨?_, wq⟩
  have := hand_close (W := wset W q c) g2 (fun b hb => by rw [ws_ne (fr b (List.mem_cons_of_mem _ hb))]; exact o.out b hb) fun b u hb hc => by
    by_cases z : b = q
    · subst z; rw [ws_same] at hc ⊢; exact hc
    · rw [ws_ne z] at hc ⊢; rw [o.fr b hb]; exact hc
  rwa [ws_id (W := wset W q c) (a := a) (by rw [ws_ne (fr a (by simp))]; exact hw)] at this
end
end
set_option Elab.async false
set_option linter.all false
set_option maxRecDepth 100000
set_option maxHeartbeats 400000
set_option autoImplicit false
section
open PySem L2
local macro_rules | `(tactic| walk_at "set") => `(tactic| ((try simp only [List.set_cons_succ, List.set_cons_zero]); rfl))
local macro_rules | `(tactic| walk_at "sc") => `(tactic| first | assumption | decide | omega | (unfold CMul; omega) | (unfold CDiv; omega) | (unfold CPow; decide) | (unfold CDiv; decide))
local macro_rules | `(tactic| walk_at "go") => `(tactic| (repeat (first | walk_at "step" | walk_at "callx")))
local macro_rules | `(tactic| walk_at "goN") => `(tactic| (repeat (first | walk_at "step" | walk_at "callx" | ((with_reducible show ∀ p, _ = none → _); walk_at "new"))))
local macro_rules | `(tactic| walk_at "len") => `(tactic| first
  | (obtain ⟨rfl, _⟩ := h; rfl) | (obtain ⟨_, rfl, _⟩ := h; rfl) | (obtain ⟨_, _, rfl, _⟩ := h; rfl) | (obtain ⟨_, _, _, rfl, _⟩ := h; rfl) | (obtain ⟨_, _, _, _, rfl, _⟩ := h; rfl)
  | (obtain ⟨_, _, _, _, _, rfl, _⟩ := h; rfl) | (obtain ⟨_, _, _, _, _, _, rfl, _⟩ := h; rfl) | (obtain ⟨_, _, _, _, _, _, _, rfl, _⟩ := h; rfl) | (obtain ⟨_, _, _, _, _, _, _, _, rfl, _⟩ := h; rfl)
  | (obtain ⟨_, _, _, _, _, _, _, _, _, rfl, _⟩ := h; rfl) | (obtain ⟨_, _, _, _, _, _, _, _, _, _, rfl, _⟩ := h; rfl))
local macro_rules | `(tactic| walk_at "dd") => `(tactic| first | with_reducible assumption | ((with_reducible refine' DctD.own ?h); (case h => walk_at "wk")) | ((with_reducible refine' DctD.lock ?h); (case h => walk_at "wk")))
local macro_rules | `(tactic| walk_at "mat") => `(tactic| first | ((with_reducible refine' MAt.ins ?h ?l); (case h => walk_at "wk"); (case l => rfl)) | ((with_reducible refine' log_mat ?h ?l ?l2); (case h => walk_at "wk"); (case l => decide +kernel); (case l2 => decide +kernel)))
local macro_rules | `(tactic| walk_at "isim") => `(tactic| first | ((with_reducible refine' m_isi_let_ ?t ?k ?h ?e ?_); (case t => assumption); (case e => assumption); (case h => rfl)) | ((with_reducible refine' m_isi_rk ?t ?k ?h ?e ?_); (case t => assumption); (case e => assumption); (case h => rfl)) | ((with_reducible refine' m_isi_take ?t ?k ?h ?e ?_); (case t => assumption); (case e => assumption); (case h => rfl)) | ((with_reducible refine' m_isi_put ?t ?k ?h ?e ?_); (case t => assumption); (case e => assumption); (case h => rfl)) | ((with_reducible refine' m_isi_throw ?t ?k ?h ?e ?_); (case t => assumption); (case e => assumption); (case h => rfl)) | ((with_reducible refine' m_isi_iff ?t ?k ?h ?e ?_); (case t => assumption); (case e => assumption); (case h => rfl)) | ((with_reducible refine' m_isi_eith ?t ?k ?h ?e ?_); (case t => assumption); (case e => assumption); (case h => rfl)) | ((with_reducible refine' m_isi_tryy ?t ?k ?h ?e ?_); (case t => assumption); (case e => assumption); (case h => rfl)))
local macro_rules | `(tactic| walk_at "callm") => `(tactic| first | ((with_reducible refine' d_mat (hand_mat ?h ?n) ?_); (case h => walk_at "wk"); (case n => decide)) | ((with_reducible refine' d_mat (hall_mat ?h ?n) ?_); (case h => walk_at "wk"); (case n => decide)))
section
variable {d : Ad} {vs : List V} {H : Hp} {Q : VK} {E : XK}
end
end
set_option Elab.async false
set_option linter.all false
set_option maxRecDepth 100000
set_option maxHeartbeats 400000
set_option autoImplicit false
section
open PySem L2
local macro_rules | `(tactic| walk_at "set") => `(tactic| ((try simp only [List.set_cons_succ, List.set_cons_zero]); rfl))
local macro_rules | `(tactic| walk_at "sc") => `(tactic| first | assumption | decide | omega | (unfold CMul; omega) | (unfold CDiv; omega) | (unfold CPow; decide) | (unfold CDiv; decide))
local macro_rules | `(tactic| walk_at "go") => `(tactic| (repeat (first | walk_at "step" | walk_at "callx")))
local macro_rules | `(tactic| walk_at "goN") => `(tactic| (repeat (first | walk_at "step" | walk_at "callx" | ((with_reducible show ∀ p, _ = none → _); walk_at "new"))))
local macro_rules | `(tactic| walk_at "len") => `(tactic| first
  | (obtain ⟨rfl, _⟩ := h; rfl) | (obtain ⟨_, rfl, _⟩ := h; rfl) | (obtain ⟨_, _, rfl, _⟩ := h; rfl) | (obtain ⟨_, _, _, rfl, _⟩ := h; rfl) | (obtain ⟨_, _, _, _, rfl, _⟩ := h; rfl)
  | (obtain ⟨_, _, _, _, _, rfl, _⟩ := h; rfl) | (obtain ⟨_, _, _, _, _, _, rfl, _⟩ := h; rfl) | (obtain ⟨_, _, _, _, _, _, _, rfl, _⟩ := h; rfl) | (obtain ⟨_, _, _, _, _, _, _, _, rfl, _⟩ := h; rfl)
  | (obtain ⟨_, _, _, _, _, _, _, _, _, rfl, _⟩ := h; rfl) | (obtain ⟨_, _, _, _, _, _, _, _, _, _, rfl, _⟩ := h; rfl))
local macro_rules | `(tactic| walk_at "dd") => `(tactic| first | with_reducible assumption | ((with_reducible refine' DctD.own ?h); (case h => walk_at "wk")) | ((with_reducible refine' DctD.lock ?h); (case h => walk_at "wk")))
local macro_rules | `(tactic| walk_at "mat") => `(tactic| first | ((with_reducible refine' MAt.ins ?h ?l); (case h => walk_at "wk"); (case l => rfl)) | ((with_reducible refine' log_mat ?h ?l ?l2); (case h => walk_at "wk"); (case l => decide +kernel); (case l2 => decide +kernel)))
local macro_rules | `(tactic| walk_at "isim") => `(tactic| first | ((with_reducible refine' m_isi_let_ ?t ?k ?h ?e ?_); (case t => assumption); (case e => assumption); (case h => rfl)) | ((with_reducible refine' m_isi_rk ?t ?k ?h ?e ?_); (case t => assumption); (case e => assumption); (case h => rfl)) | ((with_reducible refine' m_isi_take ?t ?k ?h ?e ?_); (case t => assumption); (case e => assumption); (case h => rfl)) | ((with_reducible refine' m_isi_put ?t ?k ?h ?e ?_); (case t => assumption); (case e => assumption); (case h => rfl)) | ((with_reducible refine' m_isi_throw ?t ?k ?h ?e ?_); (case t => assumption); (case e => assumption); (case h => rfl)) | ((with_reducible refine' m_isi_iff ?t ?k ?h ?e ?_); (case t => assumption); (case e => assumption); (case h => rfl)) | ((with_reducible refine' m_isi_eith ?t ?k ?h ?e ?_); (case t => assumption); (case e => assumption); (case h => rfl)) | ((with_reducible refine' m_isi_tryy ?t ?k ?h ?e ?_); (case t => assumption); (case e => assumption); (case h => rfl)))
local macro_rules | `(tactic| walk_at "callm") => `(tactic| first | ((with_reducible refine' d_mat (hand_mat ?h ?n) ?_); (case h => walk_at "wk"); (case n => decide)) | ((with_reducible refine' d_mat (hall_mat ?h ?n) ?_); (case h => walk_at "wk"); (case n => decide)))
section
variable {d : Ad} {vs : List V} {H : Hp} {Q : VK} {E : XK}
theorem putL_len : ∀ (wr : List (Int × Int)) (l : List Int), (putL l wr).length = l.length
  | [], l => rfl
  | p :: r, l => by
    have := putL_len r (l.set p.1.toNat p.2)
    rw [List.length_set] at this
    exact this
theorem upL_len : ∀ (wr : List (Int × Int)) (l : List Int), (upL l wr).length = l.length
  | [], l => rfl
  | p :: r, l => by
    have := upL_len r (l.set p.1.toNat (l.getD p.1.toNat 0 + 1))
    rw [List.length_set] at this
    exact this
theorem bx_mem {m : Dm} {p : Int × Int} (h : p ∈ bx m) : p.1 ∈ keysM m := by
  unfold bx at h
  obtain ⟨b, hb, rfl⟩ := List.mem_map.mp h
  exact (sortK_perm m).mem_iff.mp hb
end
end
set_option Elab.async false
set_option linter.all false
set_option maxRecDepth 100000
set_option maxHeartbeats 400000
set_option autoImplicit false
section
open PySem L2
local macro_rules | `(tactic| walk_at "set") => `(tactic| ((try simp only [List.set_cons_succ, List.set_cons_zero]); rfl))
local macro_rules | `(tactic| walk_at "sc") => `(tactic| first | assumption | decide | omega | (unfold CMul; omega) | (unfold CDiv; omega) | (unfold CPow; decide) | (unfold CDiv; decide))
local macro_rules | `(tactic| walk_at "go") => `(tactic| (repeat (first | walk_at "step" | walk_at "callx")))
local macro_rules | `(tactic| walk_at "goN") => `(tactic| (repeat (first | walk_at "step" | walk_at "callx" | ((with_reducible show ∀ p, _ = none → _); walk_at "new"))))
local macro_rules | `(tactic| walk_at "len") => `(tactic| first
  | (obtain ⟨rfl, _⟩ := h; rfl) | (obtain ⟨_, rfl, _⟩ := h; rfl) | (obtain ⟨_, _, rfl, _⟩ := h; rfl) | (obtain ⟨_, _, _, rfl, _⟩ := h; rfl) | (obtain ⟨_, _, _, _, rfl, _⟩ := h; rfl)
  | (obtain ⟨_, _, _, _, _, rfl, _⟩ := h; rfl) | (obtain ⟨_, _, _, _, _, _, rfl, _⟩ := h; rfl) | (obtain ⟨_, _, _, _, _, _, _, rfl, _⟩ := h; rfl) | (obtain ⟨_, _, _, _, _, _, _, _, rfl, _⟩ := h; rfl)
  | (obtain ⟨_, _, _, _, _, _, _, _, _, rfl, _⟩ := h; rfl) | (obtain ⟨_, _, _, _, _, _, _, _, _, _, rfl, _⟩ := h; rfl))
local macro_rules | `(tactic| walk_at "dd") => `(tactic| first | with_reducible assumption | ((with_reducible refine' DctD.own ?h); (case h => walk_at "wk")) | ((with_reducible refine' DctD.lock ?h); (case h => walk_at "wk")))
local macro_rules | `(tactic| walk_at "mat") => `(tactic| first | ((with_reducible refine' MAt.ins ?h ?l); (case h => walk_at "wk"); (case l => rfl)) | ((with_reducible refine' log_mat ?h ?l ?l2); (case h => walk_at "wk"); (case l => decide +kernel); (case l2 => decide +kernel)))
local macro_rules | `(tactic| walk_at "isim") => `(tactic| first | ((with_reducible refine' m_isi_let_ ?t ?k ?h ?e ?_); (case t => assumption); (case e => assumption); (case h => rfl)) | ((with_reducible refine' m_isi_rk ?t ?k ?h ?e ?_); (case t => assumption); (case e => assumption); (case h => rfl)) | ((with_reducible refine' m_isi_take ?t ?k ?h ?e ?_); (case t => assumption); (case e => assumption); (case h => rfl)) | ((with_reducible refine' m_isi_put ?t ?k ?h ?e ?_); (case t => assumption); (case e => assumption); (case h => rfl)) | ((with_reducible refine' m_isi_throw ?t ?k ?h ?e ?_); (case t => assumption); (case e => assumption); (case h => rfl)) | ((with_reducible refine' m_isi_iff ?t ?k ?h ?e ?_); (case t => assumption); (case e => assumption); (case h => rfl)) | ((with_reducible refine' m_isi_eith ?t ?k ?h ?e ?_); (case t => assumption); (case e => assumption); (case h => rfl)) | ((with_reducible refine' m_isi_tryy ?t ?k ?h ?e ?_); (case t => assumption); (case e => assumption); (case h => rfl)))
local macro_rules | `(tactic| walk_at "callm") => `(tactic| fail)
section
variable {d : Ad} {vs : List V} {H : Hp} {Q : VK} {E : XK}
end
end
set_option Elab.async false
set_option linter.all false
set_option maxRecDepth 100000
set_option maxHeartbeats 400000
set_option autoImplicit false
section
open PySem L2
def StepOk (R : Rw) (n : Nat) (dp : Nat → Nat) (len : Nat) : Prop :=
  match R with
  | .let_ .. | .rk .. | .take .. | .put .. => n + 1 < len ∧ dp (n + 1) = dp n
  | .unl _ m => n + 1 < len ∧ dp (n + 1) = dp n ∧ n < m ∧ m < len ∧ dp m = dp n ∧ ∀ x, n < x → x < m → dp n ≤ dp x
  | .jmp k => n < k ∧ k < len ∧ dp k = dp n ∧ ∀ x, n < x → x < k → dp n ≤ dp x
  | .eit m => n + 1 < len ∧ dp (n + 1) = dp n + 1 ∧ n < m ∧ m < len ∧ dp m = dp n ∧ ∀ x, n < x → x < m → dp n ≤ dp x
  | .grd _ _ m => n + 1 < len ∧ dp (n + 1) = dp n + 1 ∧ n < m ∧ m < len ∧ dp m = dp n ∧ ∀ x, n < x → x < m → dp n ≤ dp x
  | .stl => n + 1 < len ∧ dp n = dp (n + 1) + 1
  | .thr .. | .wait => True
  | .lay => dp n = 0
def RowAt (rs : Rows) (dp : Nat → Nat) (n : Nat) : Prop := dp n ≤ 40 ∧ ∃ R, rs[n]? = some (rowV R) ∧ RwOk R ∧ StepOk R n dp rs.length
structure CodeOk (rs : Rows) (dp : Nat → Nat) : Prop where
  at' : ∀ n, n < rs.length → RowAt rs dp n
  z : dp 0 = 0
  ne : 0 < rs.length
section
variable {rs : Rows} {dp : Nat → Nat}
end
end
set_option Elab.async false
set_option linter.all false
set_option maxRecDepth 100000
set_option maxHeartbeats 400000
set_option autoImplicit false
section
open PySem L2
structure HInv (nb : Nat) (h : Hnd) : Prop where
  ok : HndOk nb h
  code : ∀ rs ∈ h.dd, ∃ dp, CodeOk rs dp
  le : h.now ≤ h.dd.length
  fin : h.mood = "ended" ↔ h.now = h.dd.length
  mood : h.mood = "awake" ∨ h.mood = "asleep" ∨ h.mood = "ended"
  pos : ∀ rs, h.dd[h.now]? = some rs → ∃ dp, CodeOk rs dp ∧ h.pc < rs.length ∧ dp h.pc = h.marks.length ∧ ∀ (i : Nat) (m : Mrk), h.marks[i]? = some m → m.tg < rs.length ∧ dp m.tg = i
def dec : List V → Rw
  | [.str a] => if a = "wait" then .wait else if a = "settle" then .stl else .lay
  | [.str a, .int k] => if a = "jump" then .jmp k.toNat else .eit k.toNat
  | [.str a, .str b, .int v] => if a = "let" then .let_ b v else .unl b v.toNat
  | [.str a, .str b, .str c] => if a = "take" then .take b c else if a = "put" then .put b c else .thr b c
  | [.str _, .str b, .str c, .int v] => .grd b c v.toNat
  | [.str a, .str b, .str c, .str e] => .rk a b c e
  | _ => .lay
theorem dec_row (R : Rw) : dec (rowV R) = R := by
  cases R with
  | let_ s v => rfl
  | rk w s o t => rfl
  | take s p => rfl
  | put p s => simp only [rowV, dec]; rw [if_neg (show ¬ ("put" : Str) = "take" by decide), if_pos trivial]
  | thr n s => simp only [rowV, dec]; rw [if_neg (show ¬ ("throw" : Str) = "take" by decide), if_neg (show ¬ ("throw" : Str) = "put" by decide)]
  | wait => rfl
  | unl s m => simp only [rowV, dec]; rw [if_neg (show ¬ ("unless" : Str) = "let" by decide)]; rfl
  | jmp k => rfl
  | eit m => simp only [rowV, dec]; rw [if_neg (show ¬ ("either" : Str) = "jump" by decide)]; rfl
  | grd n s m => rfl
  | stl => simp only [rowV, dec]; rw [if_neg (show ¬ ("settle" : Str) = "wait" by decide), if_pos trivial]
  | lay => simp only [rowV, dec]; rw [if_neg (show ¬ ("lay" : Str) = "wait" by decide), if_neg (show ¬ ("lay" : Str) = "settle" by decide)]
def rowOf (h : Hnd) : Rw := dec (((h.dd[h.now]?.getD [])[h.pc]?).getD [])
def turnM (S : HallM) (i : Nat) : TR × HallM :=
  match S.people[i]? with
  | some h => turnR S i h (rowOf h)
  | none => (.idle, S)
theorem awake_lt {nb : Nat} {h : Hnd} (v : HInv nb h) (ha : h.mood = "awake") : h.now < h.dd.length := by
  have h1 := v.le
  have h2 : h.now ≠ h.dd.length := fun z => by
    have := v.fin.mpr z
    rw [ha] at this
    exact absurd this (by decide)
  omega
theorem HInv.row {nb : Nat} {h : Hnd} (v : HInv nb h) (ha : h.mood = "awake") : ∃ rs dp, h.dd[h.now]? = some rs ∧ CodeOk rs dp ∧ h.pc < rs.length ∧ dp h.pc = h.marks.length ∧ (∀ (i : Nat) (m : Mrk), h.marks[i]? = some m → m.tg < rs.length ∧ dp m.tg = i) ∧ rs[h.pc]? = some (rowV (rowOf h)) ∧ RwOk (rowOf h) ∧ StepOk (rowOf h) h.pc dp rs.length := by
  have hl := awake_lt v ha
  have hr := List.getElem?_eq_getElem hl
  generalize h.dd[h.now] = rs at hr
  obtain ⟨dp, c, p1, p2, p3⟩ := v.pos rs hr
  obtain ⟨_, R, r1, r2, r3⟩ := c.at' h.pc p1
  have e : rowOf h = R := by
    unfold rowOf
    rw [hr, Option.getD_some, r1, Option.getD_some, dec_row]
  rw [← e] at r1 r2 r3
  exact ⟨rs, dp, hr, c, p1, p2, p3, r1, r2, r3⟩
theorem HInv.atR {nb : Nat} {h : Hnd} (v : HInv nb h) (ha : h.mood = "awake") : AtR h (rowOf h) := by
  obtain ⟨rs, dp, h1, h2, h3, h4, h5, h6, h7, h8⟩ := v.row ha
  refine ⟨⟨rs, h1, h6⟩, h7, fun e => ?_, fun e => ?_⟩
  · rw [e] at h8
    have h8 := h8.2
    intro z
    rw [h4, z] at h8
    simp at h8
  · rw [e] at h8
    have h8 : dp h.pc = 0 := h8
    rw [h4] at h8
    exact List.eq_nil_of_length_eq_zero h8
theorem keys_putM {m : Dm} {b n k : Int} (h : k ∈ keysM (dput m b n)) : k ∈ keysM m ∨ k = b := by
  rw [keys_put] at h
  split at h
  · exact .inl h
  · rcases List.mem_append.mp h with h | h
    · exact .inl h
    · exact .inr (List.mem_singleton.mp h)
theorem keys_allM : ∀ {top m : Dm} {k : Int}, k ∈ keysM (putAll m top) → k ∈ keysM m ∨ k ∈ keysM top
  | [], m, k, h => .inl h
  | p :: r, m, k, h => by
    rcases keys_allM (top := r) (m := dput m p.1 p.2) h with h | h
    · rcases keys_putM h with h | h
      · exact .inl h
      · exact .inr (by rw [h]; simp [keysM])
    · exact .inr (List.mem_cons_of_mem _ h)
section
variable {nb : Nat} {h : Hnd}
theorem inv_renew0 {dd : List Rows} {now : Nat} {kept : List Int} {mood : Str} {h : Hnd} (e : h = Hnd.renew h) (kp : h.kept.length = 8) (kn : ∀ v ∈ h.kept, Nm v) (code : ∀ rs ∈ h.dd, ∃ dp, CodeOk rs dp) (le : h.now ≤ h.dd.length) (fin : h.mood = "ended" ↔ h.now = h.dd.length) (mood : h.mood = "awake" ∨ h.mood = "asleep" ∨ h.mood = "ended") : HInv nb h := by
  have e1 : h.pc = 0 := by rw [e]; rfl
  have e2 : h.marks = [] := by rw [e]; rfl
  have e3 : h.s = ⟨h.kept, [[]], []⟩ := by
    have : h.s = (Hnd.renew h).s := by rw [← e]
    exact this
  have e4 : h.seals = [] := by rw [e]; rfl
  refine ⟨⟨?_, kp, kn, ?_, by rw [e4]; exact .nil, fun k hk => by rw [e4] at hk; simp [keysM] at hk, by rw [e2]; simp, fun m hm => by rw [e2] at hm; simp at hm⟩, code, le, fin, mood, fun rs hr => ?_⟩
  · rw [e3, e2]
    exact ⟨kp, kn, rfl, fun t ht => by simp at ht; rw [ht]; exact .nil, .nil⟩
  · rw [e3]
    intro t ht k hk
    simp at ht
    rw [ht] at hk; simp [keysM] at hk
  · obtain ⟨dp, c⟩ := code rs (List.mem_of_getElem? hr)
    exact ⟨dp, c, by rw [e1]; exact c.ne, by rw [e1, e2]; exact c.z, fun i m hm => by rw [e2] at hm; simp at hm⟩
theorem renew_idem (h : Hnd) : h.renew = Hnd.renew h.renew := rfl
theorem HInv.renew (v : HInv nb h) : HInv nb h.renew := inv_renew0 (dd := []) (now := 0) (kept := []) (mood := "") (renew_idem h) v.ok.kp v.ok.kn v.code v.le v.fin v.mood
theorem HInv.wake (v : HInv nb h) (hm : h.mood = "asleep") : HInv nb h.wake := by
  refine inv_renew0 (dd := []) (now := 0) (kept := []) (mood := "") (h := h.wake) rfl v.ok.kp v.ok.kn v.code v.le ⟨fun z => ?_, fun z => ?_⟩ (.inl rfl)
  · exact absurd (show ("awake" : Str) = "ended" from z) (by decide)
  · have := v.fin.mpr z
    rw [hm] at this
    exact absurd this (by decide)
theorem fin_now (h : Hnd) : h.fin.now = h.now ∧ h.fin.dd = h.dd ∧ h.fin.kept = h.kept := by
  unfold Hnd.fin
  split <;> exact ⟨rfl, rfl, rfl⟩
theorem inv_fin {g : Hnd} (e : g = Hnd.renew g) (kp : g.kept.length = 8) (kn : ∀ v ∈ g.kept, Nm v) (code : ∀ rs ∈ g.dd, ∃ dp, CodeOk rs dp) (le : g.now ≤ g.dd.length) (mood : g.mood = "awake") : HInv nb g.fin := by
  unfold Hnd.fin
  split
  · rename_i hc
    refine inv_renew0 (dd := []) (now := 0) (kept := []) (mood := "") ?_ kp kn code le ⟨fun _ => hc, fun _ => rfl⟩ (.inr (.inr rfl))
    rw [e]; rfl
  · rename_i hc
    exact inv_renew0 (dd := []) (now := 0) (kept := []) (mood := "") e kp kn code le ⟨fun z => by rw [mood] at z; exact absurd z (by decide), fun z => (hc z).elim⟩ (.inl mood)
theorem inv_goOn (kp : h.kept.length = 8) (kn : ∀ v ∈ h.kept, Nm v) (code : ∀ rs ∈ h.dd, ∃ dp, CodeOk rs dp) (lt : h.now < h.dd.length) (mood : h.mood = "awake") : HInv nb h.goOn :=
  inv_fin (g := Hnd.renew { h with now := h.now + 1 }) rfl kp kn code (by show h.now + 1 ≤ h.dd.length; omega) mood
theorem HInv.leave (v : HInv nb h) {k : Nat} {m : Mrk} (hm : h.marks[k]? = some m) {w : List Int} (hw : w.length = 8) (hn : ∀ x ∈ w, Nm x) {mood : Str} (hmo : mood = h.mood) : HInv nb { h with marks := h.marks.take k, s := ⟨w, h.s.ts.take (k + 1), h.s.sn⟩, pc := m.tg, mood := mood } := by
  subst hmo
  have hk := (List.getElem?_eq_some_iff.mp hm).1
  have ln := v.ok.s.ln
  refine ⟨⟨⟨hw, hn, ?_, fun t ht => v.ok.s.ts t (List.mem_of_mem_take ht), v.ok.s.sn⟩, v.ok.kp, v.ok.kn, fun t ht => v.ok.tk t (List.mem_of_mem_take ht), v.ok.sl, v.ok.sk, ?_, fun x hx => v.ok.mks x (List.mem_of_mem_take hx)⟩, v.code, v.le, v.fin, v.mood, fun rs hr => ?_⟩
  · show (h.s.ts.take (k + 1)).length = (h.marks.take k).length + 1
    rw [List.length_take, List.length_take]; omega
  · show (h.marks.take k).length ≤ 60
    have := v.ok.ml
    rw [List.length_take]; omega
  · obtain ⟨dp, c, p1, p2, p3⟩ := v.pos rs hr
    obtain ⟨q1, q2⟩ := p3 k m hm
    refine ⟨dp, c, q1, ?_, fun i x hx => p3 i x ?_⟩
    · show dp m.tg = (h.marks.take k).length
      rw [q2, List.length_take]; omega
    · have hx : (h.marks.take k)[i]? = some x := hx
      have hi := (List.getElem?_eq_some_iff.mp hx).1
      rw [List.length_take] at hi
      rw [List.getElem?_take_of_lt (by omega)] at hx
      exact hx
theorem leave_eq {k : Nat} {m : Mrk} (hm : h.marks[k]? = some m) : h.leave k = { h with marks := h.marks.take k, s := ⟨m.ps, h.s.ts.take (k + 1), h.s.sn⟩, pc := m.tg } := by unfold Hnd.leave; rw [hm]
theorem catch_eq {k : Nat} {m : Mrk} {x : Int} (hm : h.marks[k]? = some m) : h.catch k x = { h with marks := h.marks.take k, s := ⟨m.ps.set (ix m.lt) x, h.s.ts.take (k + 1), h.s.sn⟩, pc := m.tg } := by
  unfold Hnd.catch
  rw [hm]
  simp only
  rw [leave_eq hm]
  rfl
theorem HInv.step (v : HInv nb h) {pc : Nat} {σ : AS} {sl : Dm} {mk : List Mrk} (os : OkS σ (mk.length + 1)) (tk : ∀ t ∈ σ.ts, ∀ k ∈ keysM t, k < (nb : Nat)) (sk : KeysOk sl) (sn : ∀ k ∈ keysM sl, k < (nb : Nat)) (mks : ∀ m ∈ mk, m.ps.length = 8 ∧ (∀ v ∈ m.ps, Nm v) ∧ (m.kd = "guard" → Sl m.lt)) (pos : ∀ rs dp, h.dd[h.now]? = some rs → CodeOk rs dp → h.pc < rs.length → dp h.pc = h.marks.length → (∀ (i : Nat) (m : Mrk), h.marks[i]? = some m → m.tg < rs.length ∧ dp m.tg = i) → pc < rs.length ∧ dp pc = mk.length ∧ ∀ (i : Nat) (m : Mrk), mk[i]? = some m → m.tg < rs.length ∧ dp m.tg = i) (ha : h.mood = "awake") :
    HInv nb { h with pc := pc, s := σ, seals := sl, marks := mk } := by
  refine ⟨⟨os, v.ok.kp, v.ok.kn, tk, sk, sn, ?_, mks⟩, v.code, v.le, v.fin, v.mood, fun rs hr => ?_⟩
  · have hl := awake_lt v ha
    have hr := List.getElem?_eq_getElem hl
    obtain ⟨dp, c, p1, p2, p3⟩ := v.pos _ hr
    obtain ⟨q1, q2, q3⟩ := pos _ dp hr c p1 p2 p3
    have := (c.at' pc q1).1
    show mk.length ≤ 60
    omega
  · obtain ⟨dp, c, p1, p2, p3⟩ := v.pos rs hr
    exact ⟨dp, c, pos rs dp hr c p1 p2 p3⟩
end
end
set_option Elab.async false
set_option linter.all false
set_option maxRecDepth 100000
set_option maxHeartbeats 400000
set_option autoImplicit false
section
open PySem L2
structure SInv (S : HallM) : Prop where
  b : OkB S.ins
  l : S.laid.length = S.ins.length
  hn : S.people.length ≤ 8
  hv : ∀ h ∈ S.people, HInv S.ins.length h
  dl : ∀ h ∈ S.people, h.dd.length ≤ 6
  bk : S.book.length = (S.people.map Hnd.now).sum
theorem sumN_le {l : List Hnd} (h : ∀ x ∈ l, x.now ≤ 6) : (l.map Hnd.now).sum ≤ 6 * l.length := by
  induction l with
  | nil => simp
  | cons x r ih =>
    have h1 := ih fun y hy => h y (List.mem_cons_of_mem _ hy)
    have h2 := h x List.mem_cons_self
    simp only [List.map_cons, List.sum_cons, List.length_cons]
    omega
theorem SInv.ok {S : HallM} (v : SInv S) : HallOk S := ⟨v.b, v.l, by
  rw [v.bk]
  have := sumN_le (l := S.people) fun x hx => Nat.le_trans (v.hv x hx).le (v.dl x hx)
  have := v.hn
  omega, v.hn⟩
theorem SInv.at' {S : HallM} (v : SInv S) {i : Nat} {h : Hnd} (hi : S.people[i]? = some h) : HInv S.ins.length h := v.hv h (List.mem_of_getElem? hi)
theorem sum_set : ∀ {l : List Hnd} {i : Nat} {h u : Hnd}, l[i]? = some h → ((l.set i u).map Hnd.now).sum + h.now = (l.map Hnd.now).sum + u.now
  | [], i, h, u, e => by simp at e
  | x :: r, 0, h, u, e => by cases e; simp only [List.set_cons_zero, List.map_cons, List.sum_cons]; omega
  | x :: r, i + 1, h, u, e => by
    have := sum_set (l := r) (i := i) (u := u) e
    simp only [List.set_cons_succ, List.map_cons, List.sum_cons]
    omega
theorem mem_set {l : List Hnd} {i : Nat} {h x : Hnd} (hx : x ∈ l.set i h) : x = h ∨ x ∈ l := by
  rcases List.mem_or_eq_of_mem_set hx with z | z
  · exact .inr z
  · exact .inl z
theorem SInv.setH {S : HallM} (v : SInv S) {i : Nat} {h u : Hnd} (hi : S.people[i]? = some h) (hu : HInv S.ins.length u) (en : u.now = h.now) (ed : u.dd = h.dd) : SInv (S.setH i u) := by
  refine ⟨v.b, v.l, by show (S.people.set i u).length ≤ 8; rw [List.length_set]; exact v.hn, fun x hx => ?_, fun x hx => ?_, ?_⟩
  · rcases mem_set hx with rfl | hx
    · exact hu
    · exact v.hv x hx
  · rcases mem_set hx with rfl | hx
    · rw [ed]; exact v.dl h (List.mem_of_getElem? hi)
    · exact v.dl x hx
  · have := sum_set (u := u) hi
    show S.book.length = ((S.people.set i u).map Hnd.now).sum
    rw [v.bk]; omega
section
variable {S : HallM} {i : Nat} {h : Hnd}
theorem inv_plain (v : HInv S.ins.length h) (ob : OkB S.ins) (ha : h.mood = "awake") {p : Pt} {R : Rw} (hR : rowOf h = R) (ok : okP p) {sl : Dm} (sk : KeysOk sl) (sn : ∀ k ∈ keysM sl, k < (S.ins.length : Nat)) (tk : ∀ t ∈ (plainS S.ins p h.s).ts, ∀ k ∈ keysM t, k < (S.ins.length : Nat)) (st : ∀ n dp len, StepOk R n dp len → n + 1 < len ∧ dp (n + 1) = dp n) :
    HInv S.ins.length { h with pc := h.pc + 1, s := plainS S.ins p h.s, seals := sl } := by
  obtain ⟨rs0, dp0, r1, _, _, _, _, _, _, r8⟩ := v.row ha
  rw [hR] at r8
  refine HInv.step (mk := h.marks) v (v.ok.s.plain ob ok) tk sk sn v.ok.mks (fun rs dp hr c p1 p2 p3 => ?_) ha
  obtain ⟨_, R', q1, q2, q3⟩ := c.at' h.pc p1
  have eR : R' = R := by
    have : rowOf h = R' := by
      unfold rowOf
      rw [hr, Option.getD_some, q1, Option.getD_some, dec_row]
    rw [← this, hR]
  rw [eR] at q3
  obtain ⟨q4, q5⟩ := st _ _ _ q3
  exact ⟨q4, by rw [q5, p2], p3⟩
theorem row_is {R : Rw} (hR : rowOf h = R) {rs : Rows} {dp : Nat → Nat} (hr : h.dd[h.now]? = some rs) (c : CodeOk rs dp) (p1 : h.pc < rs.length) : dp h.pc ≤ 40 ∧ RwOk R ∧ StepOk R h.pc dp rs.length := by
  obtain ⟨q0, R', q1, q2, q3⟩ := c.at' h.pc p1
  have eR : R' = R := by
    have : rowOf h = R' := by
      unfold rowOf
      rw [hr, Option.getD_some, q1, Option.getD_some, dec_row]
    rw [← this, hR]
  rw [eR] at q2 q3
  exact ⟨q0, q2, q3⟩
theorem top_keys {ts : List Dm} {nb : Nat} {b n : Int} (hb : b < (nb : Nat)) (h : ∀ t ∈ ts, ∀ k ∈ keysM t, k < (nb : Nat)) : ∀ t ∈ topPut ts b n, ∀ k ∈ keysM t, k < (nb : Nat) := fun t ht k hk => by
  unfold topPut at ht
  rcases List.mem_append.mp ht with ht | ht
  · exact h t (List.dropLast_subset _ ht) k hk
  · rw [List.mem_singleton] at ht
    rw [ht] at hk
    rcases keys_putM hk with z | z
    · cases e : ts with
      | nil => rw [e] at z; simp [keysM] at z
      | cons x r =>
        rw [List.getLastD_eq_getLast?] at z
        cases e2 : ts.getLast? with
        | none => rw [e2] at z; simp [keysM] at z
        | some y =>
          rw [e2] at z
          exact h y (List.mem_of_getLast? e2) k z
    · rw [z]; exact hb
theorem settle_keys {ts : List Dm} {nb : Nat} (h : ∀ t ∈ ts, ∀ k ∈ keysM t, k < (nb : Nat)) : ∀ t ∈ settleT ts, ∀ k ∈ keysM t, k < (nb : Nat) := fun t ht k hk => by
  have last : ∀ {l : List Dm} {k : Int}, (∀ t ∈ l, ∀ k ∈ keysM t, k < (nb : Nat)) → k ∈ keysM (l.getLastD []) → k < (nb : Nat) := fun {l k} hl z => by
    rw [List.getLastD_eq_getLast?] at z
    cases e2 : l.getLast? with
    | none => rw [e2] at z; simp [keysM] at z
    | some y =>
      rw [e2] at z
      exact hl y (List.mem_of_getLast? e2) k z
  unfold settleT at ht
  rcases List.mem_append.mp ht with ht | ht
  · exact h t (List.dropLast_subset _ (List.dropLast_subset _ ht)) k hk
  · rw [List.mem_singleton] at ht
    rw [ht] at hk
    rcases keys_allM hk with z | z
    · exact last (fun t ht => h t (List.dropLast_subset _ ht)) z
    · exact last h z
theorem take_ts (bs : List Int) (σ : AS) (s p : Str) : (takeS bs σ s p).ts = σ.ts := by
  unfold takeS
  simp only
  split <;> rfl
theorem bx_lt (ob : OkB S.ins) (σ : AS) (s : Str) : 0 ≤ bxAt S.ins σ s ∧ bxAt S.ins σ s < (S.ins.length : Nat) ∧ bxAt S.ins σ s < 16 := ob.at _
theorem SInv.taken (v : SInv S) (hi : S.people[i]? = some h) (ha : h.mood = "awake") {s p : Str} (hR : rowOf h = .take s p) : SInv (takenM S i h s p).2 := by
  have hv := v.at' hi
  have rk := (hv.atR ha).ok
  rw [hR] at rk
  have b := bx_lt v.b h.s p
  have st : ∀ n dp len, StepOk (.take s p) n dp len → n + 1 < len ∧ dp (n + 1) = dp n := fun _ _ _ z => z
  have tk : ∀ t ∈ (plainS S.ins (.take s p) h.s).ts, ∀ k ∈ keysM t, k < (S.ins.length : Nat) := by
    show ∀ t ∈ (takeS S.ins h.s s p).ts, _
    rw [take_ts]; exact hv.ok.tk
  unfold takenM
  simp only
  split
  · exact v.setH hi (inv_plain hv v.b ha hR (p := .take s p) rk hv.ok.sl hv.ok.sk tk st) rfl rfl
  · refine v.setH hi (inv_plain hv v.b ha hR (p := .take s p) rk (hv.ok.sl.put _ ⟨b.1, b.2.2⟩) (fun k hk => ?_) tk st) rfl rfl
    rcases keys_putM hk with z | z
    · exact hv.ok.sk k z
    · rw [z]; exact b.2.1
theorem SInv.waited (v : SInv S) (hi : S.people[i]? = some h) (ha : h.mood = "awake") : SInv (waitedM S i h).2 := by
  have hv := v.at' hi
  have hl := awake_lt hv ha
  unfold waitedM
  split
  · refine v.setH hi ⟨⟨hv.ok.s, hv.ok.kp, hv.ok.kn, hv.ok.tk, hv.ok.sl, hv.ok.sk, hv.ok.ml, hv.ok.mks⟩, hv.code, hv.le, ⟨fun z => ?_, fun z => ?_⟩, .inr (.inl rfl), hv.pos⟩ rfl rfl
    · exact absurd (show ("asleep" : Str) = "ended" from z) (by decide)
    · have z : h.now = h.dd.length := z
      omega
  · rename_i k e
    obtain ⟨m, hm, _⟩ := lastIx_of e
    have mk := hv.ok.mks m (List.mem_of_getElem? hm)
    have := hv.leave hm mk.1 mk.2.1 (mood := h.mood) rfl
    rw [leave_eq hm]
    exact v.setH hi this rfl rfl
theorem SInv.put (v : SInv S) (hi : S.people[i]? = some h) (ha : h.mood = "awake") {p s : Str} (hR : rowOf h = .put p s) : SInv (putM S i h p s) := by
  have hv := v.at' hi
  have rk := (hv.atR ha).ok
  rw [hR] at rk
  have b := bx_lt v.b h.s p
  exact v.setH hi (inv_plain hv v.b ha hR (p := .put p s) rk hv.ok.sl hv.ok.sk (top_keys b.2.1 hv.ok.tk) fun _ _ _ z => z) rfl rfl
theorem SInv.plain (v : SInv S) (hi : S.people[i]? = some h) (ha : h.mood = "awake") (nt : ∀ s p, rowOf h ≠ .take s p) (np : ∀ s p, rowOf h ≠ .put s p) : SInv (S.setH i (plainH (rowOf h) h)) := by
  have hv := v.at' hi
  have ar := hv.atR ha
  have rk := ar.ok
  cases e : rowOf h with
  | let_ s w =>
    rw [e] at rk
    exact v.setH hi (inv_plain hv v.b ha e (p := .let_ s w) ⟨rk.1, rk.2.1, rk.2.2⟩ hv.ok.sl hv.ok.sk hv.ok.tk fun _ _ _ z => z) rfl rfl
  | rk w s o t =>
    rw [e] at rk
    exact v.setH hi (inv_plain hv v.b ha e (p := .rk w s o t) rk hv.ok.sl hv.ok.sk hv.ok.tk fun _ _ _ z => z) rfl rfl
  | unl s m =>
    refine v.setH hi (HInv.step (mk := h.marks) (σ := h.s) (sl := h.seals) hv hv.ok.s hv.ok.tk hv.ok.sl hv.ok.sk hv.ok.mks (fun rs dp hr c p1 p2 p3 => ?_) ha) rfl rfl
    obtain ⟨_, _, q⟩ := row_is e hr c p1
    obtain ⟨q1, q2, q3, q4, q5, _⟩ := q
    split
    · exact ⟨q4, by rw [q5, p2], p3⟩
    · exact ⟨q1, by rw [q2, p2], p3⟩
  | jmp k =>
    refine v.setH hi (HInv.step (mk := h.marks) (σ := h.s) (sl := h.seals) hv hv.ok.s hv.ok.tk hv.ok.sl hv.ok.sk hv.ok.mks (fun rs dp hr c p1 p2 p3 => ?_) ha) rfl rfl
    obtain ⟨_, _, q1, q2, q3, _⟩ := row_is e hr c p1
    exact ⟨q2, by rw [q3, p2], p3⟩
  | eit m =>
    refine v.setH hi (HInv.step (pc := h.pc + 1) (mk := h.marks ++ [(⟨"either", "", "", m, h.s.ps⟩ : Mrk)]) (σ := { h.s with ts := h.s.ts ++ [[]] }) (sl := h.seals) hv (by rw [List.length_append]; exact hv.ok.s.push) (fun t ht => ?_) hv.ok.sl hv.ok.sk (fun x hx => ?_) (fun rs dp hr c p1 p2 p3 => ?_) ha) rfl rfl
    · rcases List.mem_append.mp ht with ht | ht
      · exact hv.ok.tk t ht
      · rw [List.mem_singleton.mp ht]; intro k hk; simp [keysM] at hk
    · rcases List.mem_append.mp hx with hx | hx
      · exact hv.ok.mks x hx
      · rw [List.mem_singleton.mp hx]
        exact ⟨hv.ok.s.ps, hv.ok.s.nb, fun z => absurd (show ("either" : Str) = "guard" from z) (by decide)⟩
    · obtain ⟨_, _, q1, q2, q3, q4, q5, _⟩ := row_is e hr c p1
      refine ⟨q1, by rw [q2, p2, List.length_append]; rfl, fun j x hx => ?_⟩
      by_cases z : j < h.marks.length
      · rw [List.getElem?_append_left z] at hx; exact p3 j x hx
      · have hj := (List.getElem?_eq_some_iff.mp hx).1
        have : j = h.marks.length := by rw [List.length_append, List.length_singleton] at hj; omega
        subst this
        simp at hx
        subst hx
        exact ⟨q4, by show dp m = _; rw [q5, p2]⟩
  | grd n s m =>
    rw [e] at rk
    refine v.setH hi (HInv.step (pc := h.pc + 1) (mk := h.marks ++ [(⟨"guard", n, s, m, h.s.ps⟩ : Mrk)]) (σ := { h.s with ts := h.s.ts ++ [[]] }) (sl := h.seals) hv (by rw [List.length_append]; exact hv.ok.s.push) (fun t ht => ?_) hv.ok.sl hv.ok.sk (fun x hx => ?_) (fun rs dp hr c p1 p2 p3 => ?_) ha) rfl rfl
    · rcases List.mem_append.mp ht with ht | ht
      · exact hv.ok.tk t ht
      · rw [List.mem_singleton.mp ht]; intro k hk; simp [keysM] at hk
    · rcases List.mem_append.mp hx with hx | hx
      · exact hv.ok.mks x hx
      · rw [List.mem_singleton.mp hx]
        exact ⟨hv.ok.s.ps, hv.ok.s.nb, fun _ => rk.2⟩
    · obtain ⟨_, _, q1, q2, q3, q4, q5, _⟩ := row_is e hr c p1
      refine ⟨q1, by rw [q2, p2, List.length_append]; rfl, fun j x hx => ?_⟩
      by_cases z : j < h.marks.length
      · rw [List.getElem?_append_left z] at hx; exact p3 j x hx
      · have hj := (List.getElem?_eq_some_iff.mp hx).1
        have : j = h.marks.length := by rw [List.length_append, List.length_singleton] at hj; omega
        subst this
        simp at hx
        subst hx
        exact ⟨q4, by show dp m = _; rw [q5, p2]⟩
  | stl =>
    have ne := ar.st e
    obtain ⟨mk, m, em⟩ : ∃ mk m, h.marks = mk ++ [m] := by
      rcases List.eq_nil_or_concat h.marks with z | ⟨mk, m, z⟩
      · exact (ne z).elim
      · exact ⟨mk, m, by simpa using z⟩
    have os := hv.ok.s
    rw [em, List.length_append, List.length_singleton] at os
    refine v.setH hi (HInv.step (mk := h.marks.dropLast) (σ := { h.s with ts := settleT h.s.ts }) (sl := h.seals) hv (by rw [em, List.dropLast_concat]; exact os.settle) (settle_keys hv.ok.tk) hv.ok.sl hv.ok.sk (fun x hx => hv.ok.mks x (List.dropLast_subset _ hx)) (fun rs dp hr c p1 p2 p3 => ?_) ha) rfl rfl
    obtain ⟨_, _, q1, q2⟩ := row_is e hr c p1
    rw [em, List.dropLast_concat]
    rw [em, List.length_append, List.length_singleton] at p2
    refine ⟨q1, by omega, fun j x hx => p3 j x ?_⟩
    rw [em, List.getElem?_append_left (List.getElem?_eq_some_iff.mp hx).1]; exact hx
  | take s p => exact (nt s p e).elim
  | put s p => exact (np s p e).elim
  | thr n s => have := v.setH hi hv rfl rfl; exact this
  | wait => have := v.setH hi hv rfl rfl; exact this
  | lay => have := v.setH hi hv rfl rfl; exact this
end
end
set_option Elab.async false
set_option linter.all false
set_option maxRecDepth 100000
set_option maxHeartbeats 400000
set_option autoImplicit false
section
open PySem L2
theorem wakeIf_now (wr : List (Int × Int)) (h : Hnd) : (wakeIf wr h).now = h.now ∧ (wakeIf wr h).dd = h.dd := by
  unfold wakeIf
  split <;> exact ⟨rfl, rfl⟩
theorem putL_nm : ∀ {wr : List (Int × Int)} {l : List Int}, (∀ p ∈ wr, Nm p.2) → (∀ v ∈ l, Nm v) → ∀ v ∈ putL l wr, Nm v
  | [], l, _, h => h
  | p :: r, l, hp, h => fun v hv => by
    refine putL_nm (wr := r) (l := l.set p.1.toNat p.2) (fun q hq => hp q (List.mem_cons_of_mem _ hq)) (fun u hu => ?_) v hv
    rcases List.mem_or_eq_of_mem_set hu with z | z
    · exact h u z
    · rw [z]; exact hp p List.mem_cons_self
theorem bx_nm {m : Dm} (h : DmOk m) : ∀ p ∈ bx m, Nm p.2 := fun p hp => by
  have hk := bx_mem hp
  unfold bx at hp
  obtain ⟨b, hb, rfl⟩ := List.mem_map.mp hp
  obtain ⟨n, hn⟩ := dget_in hk
  show Nm ((dget m b).getD 0)
  rw [hn]
  exact h.get hn
section
variable {S : HallM} {i : Nat} {h : Hnd}
theorem SInv.set1 (v : SInv S) (hi : S.people[i]? = some h) {u : Hnd} (hu : HInv S.ins.length u) (en : u.now = h.now + 1) (ed : u.dd = h.dd) {bk : List Ent} (hb : bk.length = S.book.length + 1) : SInv { S with people := S.people.set i u, book := bk } := by
  refine ⟨v.b, v.l, by show (S.people.set i u).length ≤ 8; rw [List.length_set]; exact v.hn, fun x hx => ?_, fun x hx => ?_, ?_⟩
  · rcases mem_set hx with rfl | hx
    · exact hu
    · exact v.hv x hx
  · rcases mem_set hx with rfl | hx
    · rw [ed]; exact v.dl h (List.mem_of_getElem? hi)
    · exact v.dl x hx
  · have := sum_set (u := u) hi
    show bk.length = ((S.people.set i u).map Hnd.now).sum
    rw [hb, v.bk]; omega
theorem goOn_now (h : Hnd) : h.goOn.now = h.now + 1 ∧ h.goOn.dd = h.dd := by
  unfold Hnd.goOn
  obtain ⟨a, b, _⟩ := fin_now (Hnd.renew { h with now := h.now + 1 })
  exact ⟨a, b⟩
theorem SInv.thrown (v : SInv S) (hi : S.people[i]? = some h) (ha : h.mood = "awake") {n s : Str} (hR : rowOf h = .thr n s) : SInv (thrownM S i h n s).2 := by
  have hv := v.at' hi
  have rk := (hv.atR ha).ok
  rw [hR] at rk
  unfold thrownM
  split
  · obtain ⟨a, b⟩ := goOn_now { h with s := { h.s with ps := h.kept } }
    have := v.set1 hi (u := Hnd.goOn { h with s := { h.s with ps := h.kept } }) (inv_goOn (h := { h with s := { h.s with ps := h.kept } }) hv.ok.kp hv.ok.kn hv.code (show h.now < h.dd.length from awake_lt hv ha) ha) a b (bk := S.book ++ [⟨i, h.now, some (n, lk h.s s), bx h.s.sn, [], h.kept⟩]) (by simp)
    have e : ((recM (S.setH i { h with s := { h.s with ps := h.kept } }) i { h with s := { h.s with ps := h.kept } } (some (n, lk h.s s)) []).setH i (Hnd.goOn { h with s := { h.s with ps := h.kept } })) = { S with people := S.people.set i (Hnd.goOn { h with s := { h.s with ps := h.kept } }), book := S.book ++ [⟨i, h.now, some (n, lk h.s s), bx h.s.sn, [], h.kept⟩] } := by
      unfold recM HallM.setH
      simp only [List.set_set]
    rw [e]
    exact this
  · rename_i k e
    obtain ⟨m, hm, hg, _⟩ := lastIx_of e
    have mk := hv.ok.mks m (List.mem_of_getElem? hm)
    have x := hv.ok.s.lkN rk.2
    have := hv.leave hm (w := m.ps.set (ix m.lt) (lk h.s s)) (by rw [List.length_set]; exact mk.1) (fun u hu => by
      rcases List.mem_or_eq_of_mem_set hu with z | z
      · exact mk.2.1 u z
      · rw [z]; exact x) (mood := h.mood) rfl
    rw [catch_eq hm]
    exact v.setH hi this rfl rfl
theorem SInv.lay (v : SInv S) (hi : S.people[i]? = some h) (ha : h.mood = "awake") (hR : rowOf h = .lay) : SInv (layM S i h).2 := by
  have hv := v.at' hi
  have hma := (hv.atR ha).l0 hR
  obtain ⟨t, et⟩ : ∃ t, h.s.ts = [t] := by
    have := hv.ok.s.ln
    rw [hma] at this
    match h.s.ts, this with
    | [t], _ => exact ⟨t, rfl⟩
  have dk : DmOk t := hv.ok.s.ts t (by rw [et]; simp)
  have ld : h.s.ts.headD [] = t := by rw [et]; rfl
  obtain ⟨a, b⟩ := goOn_now { h with kept := h.s.ps }
  unfold layM
  simp only [ld]
  have lp : (putL S.ins (bx t)).length = S.ins.length := putL_len _ _
  have pe : ((S.people.set i { h with kept := h.s.ps }).map (wakeIf (bx t))).set i (Hnd.goOn { h with kept := h.s.ps }) = (S.people.map (wakeIf (bx t))).set i (Hnd.goOn { h with kept := h.s.ps }) := by
    rw [List.map_set, List.set_set]
  have gl : HInv S.ins.length (Hnd.goOn { h with kept := h.s.ps }) := inv_goOn (h := { h with kept := h.s.ps }) hv.ok.s.ps hv.ok.s.nb hv.code (show h.now < h.dd.length from awake_lt hv ha) ha
  have mm : ∀ x ∈ (S.people.map (wakeIf (bx t))).set i (Hnd.goOn { h with kept := h.s.ps }), HInv S.ins.length x ∧ x.dd.length ≤ 6 := fun x hx => by
    rcases mem_set hx with rfl | hx
    · exact ⟨gl, by rw [b]; exact v.dl h (List.mem_of_getElem? hi)⟩
    · obtain ⟨y, hy, rfl⟩ := List.mem_map.mp hx
      refine ⟨?_, by rw [(wakeIf_now _ _).2]; exact v.dl y hy⟩
      unfold wakeIf
      split
      · rename_i hc
        exact (v.hv y hy).wake hc.1
      · exact v.hv y hy
  refine ⟨⟨by show 1 ≤ (putL S.ins (bx t)).length; rw [lp]; exact v.b.l1, by show (putL S.ins (bx t)).length ≤ 16; rw [lp]; exact v.b.l2, putL_nm (bx_nm dk) v.b.nb⟩, by show (upL S.laid (bx t)).length = (putL S.ins (bx t)).length; rw [lp, upL_len]; exact v.l, ?_, fun x hx => ?_, fun x hx => ?_, ?_⟩
  · show (((S.people.set i { h with kept := h.s.ps }).map (wakeIf (bx t))).set i (Hnd.goOn { h with kept := h.s.ps })).length ≤ 8
    rw [List.length_set, List.length_map, List.length_set]; exact v.hn
  · have hx : x ∈ ((S.people.set i { h with kept := h.s.ps }).map (wakeIf (bx t))).set i (Hnd.goOn { h with kept := h.s.ps }) := hx
    rw [pe] at hx
    show HInv (putL S.ins (bx t)).length x
    rw [lp]
    exact (mm x hx).1
  · have hx : x ∈ ((S.people.set i { h with kept := h.s.ps }).map (wakeIf (bx t))).set i (Hnd.goOn { h with kept := h.s.ps }) := hx
    rw [pe] at hx
    exact (mm x hx).2
  · show (S.book ++ [_]).length = ((((S.people.set i { h with kept := h.s.ps }).map (wakeIf (bx t))).set i (Hnd.goOn { h with kept := h.s.ps })).map Hnd.now).sum
    rw [pe, List.length_append, List.length_singleton, v.bk]
    have hw : (S.people.map (wakeIf (bx t)))[i]? = some (wakeIf (bx t) h) := by rw [List.getElem?_map, hi]; rfl
    have h1 := sum_set (u := Hnd.goOn { h with kept := h.s.ps }) hw
    have h2 : (S.people.map (wakeIf (bx t))).map Hnd.now = S.people.map Hnd.now := by
      rw [List.map_map]
      exact List.map_congr_left fun x _ => (wakeIf_now _ x).1
    rw [h2, (wakeIf_now _ h).1, a] at h1
    have h1 : (((S.people.map (wakeIf (bx t))).set i (Hnd.goOn { h with kept := h.s.ps })).map Hnd.now).sum + h.now = (S.people.map Hnd.now).sum + (h.now + 1) := h1
    omega
theorem SInv.turnR (v : SInv S) (hi : S.people[i]? = some h) : SInv (turnR S i h (rowOf h)).2 := by
  unfold RT.turnR
  split
  · exact v
  · rename_i hm
    have ha : h.mood = "awake" := Decidable.not_not.mp hm
    split
    · exact v.setH hi (v.at' hi).renew rfl rfl
    · unfold goneM
      split
      · rename_i s p e; exact v.taken hi ha e
      · exact v.waited hi ha
      · rename_i n s e; exact v.thrown hi ha e
      · rename_i e; exact v.lay hi ha e
      · rename_i p s e; exact v.put hi ha e
      · rename_i R n1 n2 n3 n4 n5
        exact v.plain hi ha (fun s p e => n1 s p e) fun s p e => n5 s p e
end
theorem SInv.go {d : Ad} {W : Wd} {Q : KD} {A : Addr} {S : HallM} {i : Nat} (v : SInv S) (hw : W A = some (hallC d S)) (hi : i < S.people.length) (k : Q (turD (turnM S i).1) (wset W A (hallC d (turnM S i).2))) : p_Hall_turn d [.ptr A, .int (i : Nat)] W Q := by
  have ih := List.getElem?_eq_getElem hi
  generalize S.people[i] = h at ih
  unfold turnM at k
  rw [ih] at k
  exact ⟨A, S, i, h, rowOf h, rfl, hw, ih, v.ok, (v.at' ih).ok, fun ha => (v.at' ih).atR ha, k⟩
end
set_option Elab.async false
set_option linter.all false
set_option maxRecDepth 100000
set_option maxHeartbeats 2000000
set_option autoImplicit false
section
open PySem L2
section
variable {K : PySem.W.Frag} {e : Env} {W : Wd} {te : TE} {Q : KD}
end
def tx (ws : List Str) : Str := Txt.join " " ws
def txs (ws : List Str) : Str := tx ws ++ " "
theorem tx_wl (ws : List Str) : tx ws = SX.S (wl ws) := wl_join ws
theorem tx_one (w : Str) : tx [w] = w := join_one w
theorem tx_wr (ps : List Pt) : wr ps = tx (toksOf ps) := rfl
theorem tx_cat {a b : List Str} (ha : a ≠ []) (hb : b ≠ []) : tx a ++ " " ++ tx b = tx (a ++ b) := by
  rw [tx_wl, tx_wl, tx_wl, wl_app ha hb, blank_S, SX.S_cat, SX.S_cat, List.append_assoc]
  rfl
theorem txs_tx {a b : List Str} (ha : a ≠ []) (hb : b ≠ []) : txs a ++ tx b = tx (a ++ b) := tx_cat ha hb
theorem app_assoc (a b c : Str) : a ++ b ++ c = a ++ (b ++ c) := by
  rw [← SX.S_tl a, ← SX.S_tl b, ← SX.S_tl c, SX.S_cat, SX.S_cat, SX.S_cat, SX.S_cat, List.append_assoc]
theorem tx_lit {a ws : List Str} {lit : Str} (e : lit = " " ++ tx ws) (ha : a ≠ []) (hw : ws ≠ []) : tx a ++ lit = tx (a ++ ws) := by
  rw [e, ← app_assoc]; exact tx_cat ha hw
theorem tx_mid {a ws : List Str} {lit : Str} (e : lit = " " ++ txs ws) (ha : a ≠ []) (hw : ws ≠ []) : tx a ++ lit = txs (a ++ ws) := by
  rw [e]
  unfold txs
  rw [← app_assoc, ← app_assoc, tx_cat ha hw]
end
set_option Elab.async false
set_option linter.all false
set_option maxRecDepth 100000
set_option maxHeartbeats 1000000
set_option autoImplicit false
section
open PySem L2
structure HSt where
  pc : Nat
  mks : List Mrk
  s : AS
abbrev Hnd.st (h : Hnd) : HSt := ⟨h.pc, h.marks, h.s⟩
def leaveS (k : Nat) (x : HSt) : HSt :=
  match x.mks[k]? with
  | some m => ⟨m.tg, x.mks.take k, ⟨m.ps, x.s.ts.take (k + 1), x.s.sn⟩⟩
  | none => x
def catchS (k : Nat) (v : Int) (x : HSt) : HSt :=
  match x.mks[k]? with
  | some m => ⟨m.tg, x.mks.take k, AS.give ⟨m.ps, x.s.ts.take (k + 1), x.s.sn⟩ m.lt v⟩
  | none => x
def stepF (bs : List Int) (R : Rw) (x : HSt) : Option HSt :=
  match R with
  | .let_ s v => some ⟨x.pc + 1, x.mks, x.s.give s v⟩
  | .rk w s o t => some ⟨x.pc + 1, x.mks, x.s.give s (rkn w (lk x.s o) (lk x.s t))⟩
  | .take s p => some ⟨x.pc + 1, x.mks, takeS bs x.s s p⟩
  | .put p s => some ⟨x.pc + 1, x.mks, { x.s with ts := topPut x.s.ts (bxAt bs x.s p) (lk x.s s) }⟩
  | .unl s m => some ⟨if lk x.s s = 0 then m else x.pc + 1, x.mks, x.s⟩
  | .jmp k => some ⟨k, x.mks, x.s⟩
  | .eit m => some ⟨x.pc + 1, x.mks ++ [⟨"either", "", "", m, x.s.ps⟩], { x.s with ts := x.s.ts ++ [[]] }⟩
  | .grd n s m => some ⟨x.pc + 1, x.mks ++ [⟨"guard", n, s, m, x.s.ps⟩], { x.s with ts := x.s.ts ++ [[]] }⟩
  | .stl => some ⟨x.pc + 1, x.mks.dropLast, { x.s with ts := settleT x.s.ts }⟩
  | .wait => (lastIx isE x.mks).map fun k => leaveS k x
  | .thr n s => (lastIx (isG n) x.mks).map fun k => catchS k (lk x.s s) x
  | .lay => none
inductive Star (rows : Rows) (bs : List Int) : HSt → HSt → Prop
  | refl (x : HSt) : Star rows bs x x
  | head {x y z : HSt} (R : Rw) (h : rows[x.pc]? = some (rowV R)) (e : stepF bs R x = some y) (k : Star rows bs y z) : Star rows bs x z
section
variable {rows : Rows} {bs : List Int}
theorem Star.trans {x y z : HSt} (h : Star rows bs x y) (k : Star rows bs y z) : Star rows bs x z := by
  induction h with
  | refl => exact k
  | head R a e _ ih => exact .head R a e (ih k)
theorem Star.tail {x y z : HSt} (h : Star rows bs x y) (R : Rw) (a : rows[y.pc]? = some (rowV R)) (e : stepF bs R y = some z) : Star rows bs x z := h.trans (.head R a e (.refl _))
end
def Agr (bs : List Int) (sn : Dm) : Prop := ∀ b v, dget sn b = some v → bs.getD b.toNat 0 = v
theorem bxAt_len {bs bs' : List Int} (e : bs.length = bs'.length) (σ : AS) (s : Str) : bxAt bs σ s = bxAt bs' σ s := by unfold bxAt; rw [e]
theorem step_agr {bs bs' : List Int} {R : Rw} {x y : HSt} (e : bs'.length = bs.length) (h : stepF bs R x = some y) (a : Agr bs' y.s.sn) : stepF bs' R x = some y := by
  cases R with
  | take s p =>
    simp only [stepF] at h ⊢
    cases h
    unfold takeS at a ⊢
    simp only at a ⊢
    rw [bxAt_len e]
    split
    · rfl
    · rename_i hn
      rw [hn] at a
      have := a (bxAt bs x.s p) (bs.getD (bxAt bs x.s p).toNat 0) (by
        show dget (dput x.s.sn _ _) _ = _
        rw [dget_put, if_pos rfl])
      rw [this]
  | put p s => simp only [stepF] at h ⊢; rw [bxAt_len e]; exact h
  | let_ s v => exact h
  | rk w s o t => exact h
  | unl s m => exact h
  | jmp k => exact h
  | eit m => exact h
  | grd n s m => exact h
  | stl => exact h
  | wait => exact h
  | thr n s => exact h
  | lay => exact h
end
set_option Elab.async false
set_option linter.all false
set_option maxRecDepth 100000
set_option maxHeartbeats 1000000
set_option autoImplicit false
section
open PySem L2
inductive TurnX (S : HallM) (i : Nat) (h : Hnd) : TR → HallM → Prop
  | idle : h.mood ≠ "awake" → TurnX S i h .idle S
  | step (u : Hnd) (R : Rw) : h.mood = "awake" → rowOf h = R → stepF S.ins R h.st = some u.st → u.dd = h.dd → u.now = h.now → u.kept = h.kept → u.mood = "awake" → u.s.sn = h.s.sn → u.seals = h.seals → TurnX S i h (.gone h.pc) (S.setH i u)
  | seen (s p : Str) (b v : Int) (u : Hnd) : h.mood = "awake" → rowOf h = .take s p → staleB S.laid h.seals = false → b = bxAt S.ins h.s p → v = S.ins.getD b.toNat 0 → 0 ≤ b ∧ b < (S.ins.length : Nat) ∧ b < 16 → ownM h.s.ts b = none → u = { h with pc := h.pc + 1, s := takeS S.ins h.s s p, seals := dput h.seals b (S.laid.getD b.toNat 0) } → TurnX S i h (.seen h.pc b v) (S.setH i u)
  | asleep : h.mood = "awake" → rowOf h = .wait → staleB S.laid h.seals = false → lastIx isE h.marks = none → TurnX S i h (.asleep h.pc) (S.setH i { h with mood := "asleep" })
  | anew : h.mood = "awake" → staleB S.laid h.seals = true → TurnX S i h (.anew h.pc) (S.setH i h.renew)
  | fell (n s : Str) : h.mood = "awake" → rowOf h = .thr n s → staleB S.laid h.seals = false → lastIx (isG n) h.marks = none → TurnX S i h (.fell h.pc) { S with people := S.people.set i (Hnd.goOn { h with s := { h.s with ps := h.kept } }), book := S.book ++ [⟨i, h.now, some (n, lk h.s s), bx h.s.sn, [], h.kept⟩] }
  | done (t : Dm) (wr : List (Int × Int)) : h.mood = "awake" → rowOf h = .lay → staleB S.laid h.seals = false → h.marks = [] → h.s.ts = [t] → wr = bx t → DmOk t → (∀ k ∈ keysM t, k < (S.ins.length : Nat)) → TurnX S i h (.done h.pc) ⟨(S.people.map (wakeIf wr)).set i (Hnd.goOn { h with kept := h.s.ps }), putL S.ins wr, upL S.laid wr, S.book ++ [⟨i, h.now, none, bx h.s.sn, wr, h.s.ps⟩]⟩
section
variable {S : HallM} {i : Nat} {h : Hnd}
theorem turn_x (v : SInv S) (hi : S.people[i]? = some h) : TurnX S i h (turnM S i).1 (turnM S i).2 := by
  unfold turnM
  rw [hi]
  show TurnX S i h (turnR S i h (rowOf h)).1 (turnR S i h (rowOf h)).2
  unfold turnR
  have hv := v.at' hi
  by_cases hm : h.mood ≠ "awake"
  · rw [if_pos hm]; exact .idle hm
  rw [if_neg hm]
  have ha : h.mood = "awake" := Decidable.not_not.mp hm
  by_cases hs : (outB S.ins h (rowOf h) && staleB S.laid h.seals) = true
  · rw [if_pos hs]
    exact .anew ha (by rw [Bool.and_eq_true] at hs; exact hs.2)
  rw [if_neg hs]
  have st : outB S.ins h (rowOf h) = true → staleB S.laid h.seals = false := fun o => by
    rw [o, Bool.true_and] at hs
    exact Bool.eq_false_iff.mpr hs
  unfold goneM
  cases e : rowOf h with
  | take s p =>
    rw [e] at st
    show TurnX S i h (takenM S i h s p).1 (takenM S i h s p).2
    unfold takenM
    simp only
    have hb := bx_lt v.b h.s p
    split
    · rename_i w hw
      refine .step _ (.take s p) ha e rfl rfl rfl rfl ha ?_ rfl
      show (takeS S.ins h.s s p).sn = _
      unfold takeS
      simp only [hw]
      rfl
    · rename_i hw
      exact .seen s p _ _ _ ha e (st (by show (ownM h.s.ts _).isNone = true; rw [hw]; rfl)) rfl rfl hb hw rfl
  | wait =>
    rw [e] at st
    show TurnX S i h (waitedM S i h).1 (waitedM S i h).2
    unfold waitedM
    split
    · rename_i ek
      exact .asleep ha e (st (by show (lastIx isE h.marks).isNone = true; rw [ek]; rfl)) ek
    · rename_i k ek
      obtain ⟨m, hm, _, _⟩ := lastIx_of ek
      refine .step _ .wait ha e ?_ ?_ ?_ ?_ ?_ ?_ ?_
      · simp only [stepF, ek, Option.map_some]
        unfold leaveS Hnd.st
        simp only [hm, leave_eq hm]
      all_goals (rw [leave_eq hm])
      exact ha
  | thr n s =>
    rw [e] at st
    show TurnX S i h (thrownM S i h n s).1 (thrownM S i h n s).2
    unfold thrownM
    split
    · rename_i ek
      have := TurnX.fell n s ha e (st (by show (lastIx (isG n) h.marks).isNone = true; rw [ek]; rfl)) ek (S := S) (i := i)
      unfold recM HallM.setH
      simp only [List.set_set]
      exact this
    · rename_i k ek
      obtain ⟨m, hm, _, _⟩ := lastIx_of ek
      refine .step _ (.thr n s) ha e ?_ ?_ ?_ ?_ ?_ ?_ ?_
      · simp only [stepF, ek, Option.map_some]
        unfold catchS Hnd.st
        simp only [hm, catch_eq hm]
        rfl
      all_goals (rw [catch_eq hm])
      exact ha
  | lay =>
    rw [e] at st
    show TurnX S i h (layM S i h).1 (layM S i h).2
    unfold layM
    have hma := (hv.atR ha).l0 e
    obtain ⟨t, et⟩ : ∃ t, h.s.ts = [t] := by
      have := hv.ok.s.ln
      rw [hma] at this
      match h.s.ts, this with
      | [t], _ => exact ⟨t, rfl⟩
    have dk : DmOk t := hv.ok.s.ts t (by rw [et]; simp)
    have ld : h.s.ts.headD [] = t := by rw [et]; rfl
    simp only [ld]
    have := TurnX.done t (bx t) ha e (st rfl) hma et rfl dk (hv.ok.tk t (by rw [et]; simp)) (S := S) (i := i)
    have e2 : ((S.people.set i { h with kept := h.s.ps }).map (wakeIf (bx t))).set i (Hnd.goOn { h with kept := h.s.ps }) = (S.people.map (wakeIf (bx t))).set i (Hnd.goOn { h with kept := h.s.ps }) := by
      rw [List.map_set, List.set_set]
    rw [← e2] at this
    exact this
  | put p s => exact .step { h with pc := h.pc + 1, s := { h.s with ts := topPut h.s.ts (bxAt S.ins h.s p) (lk h.s s) } } (.put p s) ha e rfl rfl rfl rfl ha rfl rfl
  | let_ s w => exact .step (plainH (.let_ s w) h) (.let_ s w) ha e rfl rfl rfl rfl ha rfl rfl
  | rk w s o t => exact .step (plainH (.rk w s o t) h) (.rk w s o t) ha e rfl rfl rfl rfl ha rfl rfl
  | unl s m => exact .step (plainH (.unl s m) h) (.unl s m) ha e rfl rfl rfl rfl ha rfl rfl
  | jmp k => exact .step (plainH (.jmp k) h) (.jmp k) ha e rfl rfl rfl rfl ha rfl rfl
  | eit m => exact .step (plainH (.eit m) h) (.eit m) ha e rfl rfl rfl rfl ha rfl rfl
  | grd n s m => exact .step (plainH (.grd n s m) h) (.grd n s m) ha e rfl rfl rfl rfl ha rfl rfl
  | stl => exact .step (plainH .stl h) .stl ha e rfl rfl rfl rfl ha rfl rfl
end
theorem key_in {m : Dm} {b v : Int} (h : dget m b = some v) : b ∈ keysM m := by
  have h3 := dget_any b m
  rw [h] at h3
  obtain ⟨y, hy, q⟩ := List.any_eq_true.mp h3
  exact List.mem_map.mpr ⟨y, hy, of_decide_eq_true q⟩
theorem stale_get {laid : List Int} {sl : Dm} (h : staleB laid sl = false) {b k : Int} (e : dget sl b = some k) : k = laid.getD b.toNat 0 := by
  have := List.any_eq_false.mp h b (key_in e)
  rw [e] at this
  exact Decidable.not_not.mp fun z => this (decide_eq_true z)
theorem stale_of {laid : List Int} {sl : Dm} (h : ∀ b k, dget sl b = some k → k = laid.getD b.toNat 0) : staleB laid sl = false := by
  refine List.any_eq_false.mpr fun b hb => ?_
  obtain ⟨k, e⟩ := dget_in hb
  rw [e]
  intro z
  exact of_decide_eq_true z (h b k e)
def Rch (nb : Nat) (h : Hnd) : Prop := ∀ rows, h.dd[h.now]? = some rows → ∀ bs : List Int, bs.length = nb → Agr bs h.s.sn → Star rows bs ⟨0, [], ⟨h.kept, [[]], []⟩⟩ h.st
structure SOk (ins laid : List Int) (h : Hnd) : Prop where
  key : ∀ b, (dget h.seals b).isSome = (dget h.s.sn b).isSome
  le : ∀ b k, dget h.seals b = some k → k ≤ laid.getD b.toNat 0
  eq : ∀ b v, dget h.s.sn b = some v → dget h.seals b = some (laid.getD b.toNat 0) → ins.getD b.toNat 0 = v
  slp : h.mood = "asleep" → staleB laid h.seals = false ∧ rowOf h = .wait ∧ lastIx isE h.marks = none
  fin : h.mood = "ended" → h.seals = [] ∧ h.s = ⟨h.kept, [[]], []⟩
structure WInv (S : HallM) : Prop where
  r : ∀ h ∈ S.people, Rch S.ins.length h
  s : ∀ h ∈ S.people, SOk S.ins S.laid h
section
variable {ins laid : List Int} {h : Hnd} {nb : Nat}
theorem SOk.agr (k : SOk ins laid h) (st : staleB laid h.seals = false) : Agr ins h.s.sn := fun b v e => by
  have h1 := k.key b
  rw [e] at h1
  obtain ⟨m, hm⟩ := Option.isSome_iff_exists.mp h1
  exact k.eq b v e (by rw [hm, stale_get st hm])
theorem rch0 {h : Hnd} (e1 : h.pc = 0) (e2 : h.marks = []) (e3 : h.s = ⟨h.kept, [[]], []⟩) : Rch nb h := fun rows _ bs _ _ => by
  unfold Hnd.st
  rw [e1, e2, ← e3]
  exact .refl _
theorem sok0 {h : Hnd} (e4 : h.seals = []) (e3 : h.s = ⟨h.kept, [[]], []⟩) (m : h.mood ≠ "asleep") : SOk ins laid h :=
  ⟨fun b => (by rw [e4, e3]), fun b k e => (by rw [e4] at e; cases e), fun b v e => (by rw [e3] at e; cases e), fun z => (m z).elim, fun _ => ⟨e4, e3⟩⟩
theorem goOn_all (h : Hnd) : h.goOn.pc = 0 ∧ h.goOn.marks = [] ∧ h.goOn.s = ⟨h.goOn.kept, [[]], []⟩ ∧ h.goOn.seals = [] ∧ h.goOn.kept = h.kept := by
  unfold Hnd.goOn Hnd.fin
  split <;> exact ⟨rfl, rfl, rfl, rfl, rfl⟩
theorem goOn_mood {h : Hnd} (ha : h.mood = "awake") : h.goOn.mood ≠ "asleep" := by
  unfold Hnd.goOn Hnd.fin
  split
  · exact (by decide : ("ended" : Str) ≠ "asleep")
  · show h.mood ≠ _
    rw [ha]; decide
theorem rch_goOn (h : Hnd) : Rch nb h.goOn := by
  obtain ⟨a, b, c, _⟩ := goOn_all h
  exact rch0 a b c
theorem sok_goOn {h : Hnd} (ha : h.mood = "awake") : SOk ins laid h.goOn := by
  obtain ⟨a, b, c, e, _⟩ := goOn_all h
  exact sok0 e c (goOn_mood ha)
theorem Rch.step {u : Hnd} (k : Rch ins.length h) (hv : HInv ins.length h) (ha : h.mood = "awake") (es : stepF ins (rowOf h) h.st = some u.st) (e1 : u.dd = h.dd) (e2 : u.now = h.now) (e3 : u.kept = h.kept) (ag : ∀ bs : List Int, Agr bs u.s.sn → Agr bs h.s.sn) : Rch ins.length u := fun rows hr bs hl hb => by
  rw [e1, e2] at hr
  obtain ⟨rs, dp, h1, h2, h3, h4, h5, h6, h7, h8⟩ := hv.row ha
  rw [h1] at hr
  cases hr
  rw [e3]
  exact (k _ h1 bs hl (ag bs hb)).tail (rowOf h) h6 (step_agr hl es hb)
end
theorem getD_set' {l : List Int} {i j : Nat} {v : Int} (hj : j < l.length) : (l.set j v).getD i 0 = if j = i then v else l.getD i 0 := by
  rw [List.getD_eq_getElem?_getD, List.getElem?_set, List.getD_eq_getElem?_getD]
  by_cases z : j = i
  · subst z; rw [if_pos rfl, if_pos hj, if_pos rfl]; rfl
  · rw [if_neg z, if_neg z]
theorem putL_ne' {b : Int} : ∀ {wr : List (Int × Int)} {l : List Int}, (∀ p ∈ wr, 0 ≤ p.1) → 0 ≤ b → (∀ p ∈ wr, p.1 ≠ b) → (putL l wr).getD b.toNat 0 = l.getD b.toNat 0
  | [], l, _, _, _ => rfl
  | p :: r, l, h0, hb, hn => by
    have e : putL l (p :: r) = putL (l.set p.1.toNat p.2) r := rfl
    rw [e, putL_ne' (fun q hq => h0 q (List.mem_cons_of_mem _ hq)) hb fun q hq => hn q (List.mem_cons_of_mem _ hq)]
    have h1 := h0 p List.mem_cons_self
    have h2 := hn p List.mem_cons_self
    rw [List.getD_eq_getElem?_getD, List.getElem?_set_ne (by omega), ← List.getD_eq_getElem?_getD]
theorem upL_ne' {b : Int} : ∀ {wr : List (Int × Int)} {l : List Int}, (∀ p ∈ wr, 0 ≤ p.1) → 0 ≤ b → (∀ p ∈ wr, p.1 ≠ b) → (upL l wr).getD b.toNat 0 = l.getD b.toNat 0
  | [], l, _, _, _ => rfl
  | p :: r, l, h0, hb, hn => by
    have e : upL l (p :: r) = upL (l.set p.1.toNat (l.getD p.1.toNat 0 + 1)) r := rfl
    rw [e, upL_ne' (fun q hq => h0 q (List.mem_cons_of_mem _ hq)) hb fun q hq => hn q (List.mem_cons_of_mem _ hq)]
    have h1 := h0 p List.mem_cons_self
    have h2 := hn p List.mem_cons_self
    rw [List.getD_eq_getElem?_getD, List.getElem?_set_ne (by omega), ← List.getD_eq_getElem?_getD]
theorem upL_ge {i : Nat} : ∀ {wr : List (Int × Int)} {l : List Int}, (∀ p ∈ wr, p.1.toNat < l.length) → l.getD i 0 ≤ (upL l wr).getD i 0
  | [], l, _ => Int.le_refl _
  | p :: r, l, h => by
    have e : upL l (p :: r) = upL (l.set p.1.toNat (l.getD p.1.toNat 0 + 1)) r := rfl
    have hp := h p List.mem_cons_self
    have := upL_ge (i := i) (wr := r) (l := l.set p.1.toNat (l.getD p.1.toNat 0 + 1)) fun q hq => by rw [List.length_set]; exact h q (List.mem_cons_of_mem _ hq)
    rw [e]
    rw [getD_set' hp] at this
    by_cases z : p.1.toNat = i
    · rw [if_pos z] at this
      subst z
      omega
    · rw [if_neg z] at this; exact this
theorem upL_gt {b : Int} : ∀ {wr : List (Int × Int)} {l : List Int}, (∀ p ∈ wr, p.1.toNat < l.length) → (∃ p ∈ wr, p.1 = b) → l.getD b.toNat 0 < (upL l wr).getD b.toNat 0
  | [], l, _, h => by obtain ⟨p, hp, _⟩ := h; cases hp
  | p :: r, l, h, hb => by
    have e : upL l (p :: r) = upL (l.set p.1.toNat (l.getD p.1.toNat 0 + 1)) r := rfl
    have hp := h p List.mem_cons_self
    have hr : ∀ q ∈ r, q.1.toNat < (l.set p.1.toNat (l.getD p.1.toNat 0 + 1)).length := fun q hq => by rw [List.length_set]; exact h q (List.mem_cons_of_mem _ hq)
    rw [e]
    by_cases z : p.1 = b
    · have := upL_ge (i := b.toNat) hr
      rw [getD_set' hp, if_pos (by rw [z])] at this
      subst z
      omega
    · obtain ⟨q, hq, eq⟩ := hb
      rcases List.mem_cons.mp hq with rfl | hq
      · exact (z eq).elim
      · have := upL_gt hr ⟨q, hq, eq⟩
        have g := getD_set' (i := b.toNat) (v := l.getD p.1.toNat 0 + 1) hp
        by_cases z2 : p.1.toNat = b.toNat
        · rw [if_pos z2] at g
          rw [g] at this
          have e9 : l.getD p.1.toNat 0 = l.getD b.toNat 0 := by rw [z2]
          omega
        · rw [if_neg z2] at g
          rw [g] at this
          exact this
section
variable {S S' : HallM} {i : Nat} {h : Hnd} {t : TR}
theorem key_mem0 {ins laid : List Int} (k : SOk ins laid h) (v : HInv ins.length h) {b m : Int} (e : dget h.seals b = some m) : 0 ≤ b := (v.ok.sl.le b (key_in e)).1
theorem SOk.laid {wr : List (Int × Int)} (k : SOk S.ins S.laid h) (v : HInv S.ins.length h) (hl : S.laid.length = S.ins.length) (hw : ∀ p ∈ wr, 0 ≤ p.1 ∧ p.1 < (S.ins.length : Nat)) (hm : h.mood = "asleep" → ∀ p ∈ wr, dget h.seals p.1 = none) : SOk (putL S.ins wr) (upL S.laid wr) h := by
  have lt : ∀ p ∈ wr, p.1.toNat < S.laid.length := fun p hp => by have := hw p hp; omega
  have nn : ∀ p ∈ wr, 0 ≤ p.1 := fun p hp => (hw p hp).1
  refine ⟨k.key, fun b m e => Int.le_trans (k.le b m e) (upL_ge lt), fun b w e1 e2 => ?_, fun z => ?_, k.fin⟩
  · have b0 := key_mem0 k v e2
    by_cases z : ∃ p ∈ wr, p.1 = b
    · have h1 := upL_gt lt z
      have h2 := k.le b _ e2
      omega
    · have nz : ∀ p ∈ wr, p.1 ≠ b := fun p hp q => z ⟨p, hp, q⟩
      rw [upL_ne' nn b0 nz] at e2
      rw [putL_ne' nn b0 nz]
      exact k.eq b w e1 e2
  · obtain ⟨a1, a2, a3⟩ := k.slp z
    refine ⟨stale_of fun b m e => ?_, a2, a3⟩
    rw [upL_ne' nn (key_mem0 k v e) fun p hp q => ?_]
    · exact stale_get a1 e
    · have := hm z p hp
      rw [q, e] at this; cases this
theorem WInv.set (w : WInv S) {u : Hnd} (h1 : Rch S.ins.length u) (h2 : SOk S.ins S.laid u) : WInv (S.setH i u) := by
  refine ⟨fun x hx => ?_, fun x hx => ?_⟩
  · rcases mem_set hx with rfl | hx
    · exact h1
    · exact w.r x hx
  · rcases mem_set hx with rfl | hx
    · exact h2
    · exact w.s x hx
theorem WInv.turn (w : WInv S) (v : SInv S) (hi : S.people[i]? = some h) (x : TurnX S i h t S') : WInv S' := by
  have hm := List.mem_of_getElem? hi
  have hv := v.at' hi
  have kr := w.r h hm
  have ks := w.s h hm
  cases x with
  | idle => exact w
  | step u R ha hR es e1 e2 e3 e4 e5 e6 =>
    subst hR
    refine w.set (kr.step hv ha es e1 e2 e3 fun bs a => by rw [e5] at a; exact a) ⟨by rw [e5, e6]; exact ks.key, by rw [e6]; exact ks.le, by rw [e5, e6]; exact ks.eq, fun z => ?_, fun z => ?_⟩
    · rw [e4] at z; exact absurd z (by decide)
    · rw [e4] at z; exact absurd z (by decide)
  | seen s p b x u ha hR st eb ev hb hw eu =>
    have esn : (takeS S.ins h.s s p).sn = dput h.s.sn b x := by
      unfold takeS
      simp only [← eb, hw, ← ev]
      rfl
    have ag := ks.agr st
    subst eu
    refine w.set (kr.step (u := { h with pc := h.pc + 1, s := takeS S.ins h.s s p, seals := dput h.seals b (S.laid.getD b.toNat 0) }) hv ha (by rw [hR]; rfl) rfl rfl rfl fun bs a c y e => ?_) ⟨fun c => ?_, fun c m e => ?_, fun c y e f => ?_, fun z => absurd (ha.symm.trans z) (by decide), fun z => absurd (ha.symm.trans z) (by decide)⟩
    · have a : Agr bs (takeS S.ins h.s s p).sn := a
      rw [esn] at a
      have a := a c
      rw [dget_put] at a
      by_cases z : c = b
      · rw [if_pos z] at a
        have h1 := ag c y e
        rw [a x rfl, ev, ← z, h1]
      · rw [if_neg z] at a
        exact a y e
    · show (dget (dput h.seals b _) c).isSome = (dget (takeS S.ins h.s s p).sn c).isSome
      rw [esn, dget_put, dget_put]
      split
      · rfl
      · exact ks.key c
    · have e : dget (dput h.seals b _) c = some m := e
      rw [dget_put] at e
      split at e
      · rename_i z
        cases e
        rw [z]; exact Int.le_refl _
      · exact ks.le c m e
    · have e : dget (takeS S.ins h.s s p).sn c = some y := e
      have f : dget (dput h.seals b _) c = some _ := f
      rw [esn, dget_put] at e
      rw [dget_put] at f
      split at e
      · rename_i z
        cases e
        rw [z, ev]
      · rename_i z
        rw [if_neg z] at f
        exact ks.eq c y e f
  | asleep ha hR st hl =>
    refine w.set (u := { h with mood := "asleep" }) kr ⟨ks.key, ks.le, ks.eq, fun _ => ⟨st, hR, hl⟩, fun z => absurd (show ("asleep" : Str) = "ended" from z) (by decide)⟩
  | anew ha st => exact w.set (u := h.renew) (rch0 rfl rfl rfl) (sok0 rfl rfl (by show h.mood ≠ _; rw [ha]; decide))
  | fell n s ha hR st hl =>
    have := w.set (i := i) (u := Hnd.goOn { h with s := { h.s with ps := h.kept } }) (rch_goOn _) (sok_goOn (h := { h with s := { h.s with ps := h.kept } }) ha)
    exact ⟨this.r, this.s⟩
  | done t wr ha hR st hma et ew dk tk =>
    have hw : ∀ p ∈ wr, 0 ≤ p.1 ∧ p.1 < (S.ins.length : Nat) := fun p hp => by
      rw [ew] at hp
      exact ⟨(dk.k.le _ (bx_mem hp)).1, tk _ (bx_mem hp)⟩
    have lp : (putL S.ins wr).length = S.ins.length := putL_len _ _
    refine ⟨fun x hx => ?_, fun x hx => ?_⟩
    · show Rch (putL S.ins wr).length x
      rw [lp]
      rcases mem_set hx with rfl | hx
      · exact rch_goOn _
      · obtain ⟨y, hy, rfl⟩ := List.mem_map.mp hx
        unfold wakeIf
        split
        · exact rch0 rfl rfl rfl
        · exact w.r y hy
    · rcases mem_set hx with rfl | hx
      · exact sok_goOn (h := { h with kept := h.s.ps }) ha
      · obtain ⟨y, hy, rfl⟩ := List.mem_map.mp hx
        unfold wakeIf
        split
        · exact sok0 rfl rfl (by show ("awake" : Str) ≠ "asleep"; decide)
        · rename_i hc
          refine (w.s y hy).laid (v.hv y hy) v.l hw fun z p hp => ?_
          cases e : dget y.seals p.1 with
          | none => rfl
          | some m => exact (hc ⟨z, List.any_eq_true.mpr ⟨p, hp, by rw [e]; rfl⟩⟩).elim
end
theorem WInv.go {S : HallM} (w : WInv S) (v : SInv S) (i : Nat) : WInv (turnM S i).2 := by
  cases e : S.people[i]? with
  | none =>
    unfold turnM
    rw [e]; exact w
  | some h => exact w.turn v e (turn_x v e)
end
set_option Elab.async false
set_option linter.all false
set_option maxRecDepth 100000
set_option maxHeartbeats 1000000
set_option autoImplicit false
section
open PySem L2
def Short (k : Nat) (s : Str) : Prop := s.length ≤ k * 1000
theorem sh_app {a b : Str} {k l : Nat} (h : Short k a) (h2 : Short l b) : Short (k + l) (a ++ b) := by
  unfold Short at *
  rw [str_len_app]; omega
theorem sh_lit {s : Str} (h : decide (s.length ≤ 1000) = true) : Short 1 s := by
  unfold Short
  have := of_decide_eq_true h
  omega
theorem sh_num {v : Int} (h : 0 ≤ v) (h2 : v < 18446744073709551616) : Short 1 (numS v) := by
  unfold Short
  have := numS_len h h2
  omega
theorem d_addSh {K : PySem.W.Frag} {W : Wd} {Q : KD} {a b : Str} {k l : Nat} (h : Short k a) (h2 : Short l b) (h3 : k + l ≤ 1000) (q : Q (.raw (.str (a ++ b))) W) : RD K rAddS (.raw (.str a)) (.raw (.str b)) W Q :=
  d_addS (by unfold Short at *; rw [sizeLine_eq]; omega) q
section
variable {n m v : Int}
theorem tk_eq {a : List Str} {ps : List Pt} (h : a = toksOf ps) : tx a = wr ps := by rw [h]; rfl
end
end
set_option Elab.async false
set_option linter.all false
set_option maxRecDepth 100000
set_option maxHeartbeats 1000000
set_option autoImplicit false
local macro_rules | `(tactic| walk_at "sh") => `(tactic| first | with_reducible assumption | ((with_reducible refine' sh_app ?h1 ?h2); (case h1 => walk_at "sh"); (case h2 => walk_at "sh")) | exact sh_lit (by decide +kernel))
section
open PySem L2
structure LoL (W W' : Wd) (p : Addr) (as : List Addr) (ess : List (List D)) : Prop where
  hp : W' p = some (.lst (as.map D.ptr))
  ln : as.length = ess.length
  at' : ∀ (j : Nat) (a : Addr) (es : List D), as[j]? = some a → ess[j]? = some es → W' a = some (.lst es)
  nd : (p :: as).Nodup
  out : ∀ b ∈ p :: as, W b = none
  fr : ∀ b, b ∉ p :: as → W' b = W b
section
variable {W W' : Wd} {p q : Addr} {as : List Addr} {ess : List (List D)}
theorem LoL.nil (h : W p = none) : LoL W (wset W p (.lst [])) p [] [] := ⟨ws_same, rfl, fun j a es h => by simp at h, by simp, fun b hb => by simp at hb; rw [hb]; exact h, fun b hb => by simp at hb; exact ws_ne hb⟩
theorem LoL.of (g : LoL W W' p as ess) : ∀ b ∈ p :: as, ∃ c, W' b = some c := fun b hb => by
  rcases List.mem_cons.mp hb with rfl | hb
  · exact ⟨_, g.hp⟩
  · obtain ⟨j, hj⟩ := List.getElem?_of_mem hb
    exact ⟨_, g.at' j b _ hj (List.getElem?_eq_getElem (by rw [← g.ln]; exact (List.getElem?_eq_some_iff.mp hj).1))⟩
theorem LoL.new (g : LoL W W' p as ess) (hq : W' q = none) : (∀ b ∈ p :: as, b ≠ q) ∧ W q = none := by
  have h : ∀ b ∈ p :: as, b ≠ q := fun b hb w => by
    obtain ⟨c, hc⟩ := g.of b hb
    rw [w, hq] at hc; cases hc
  exact ⟨h, by rw [← g.fr q fun z => h q z rfl]; exact hq⟩
theorem LoL.set (g : LoL W W' p as ess) {j : Nat} {a : Addr} (ha : as[j]? = some a) (es : List D) : LoL W (wset W' a (.lst es)) p as (ess.set j es) := by
  have nd := List.nodup_cons.mp g.nd
  have hm := List.mem_of_getElem? ha
  refine ⟨by rw [ws_ne (fun w => nd.1 (by rw [w]; exact hm))]; exact g.hp, by rw [List.length_set]; exact g.ln, fun i b x h k => ?_, g.nd, g.out, fun b hb => by rw [ws_ne (fun w => hb (by simp [w, hm]))]; exact g.fr b hb⟩
  by_cases z : j = i
  · subst z
    rw [ha] at h; cases h
    rw [List.getElem?_set] at k
    simp only [if_true] at k
    split at k
    · cases k; exact ws_same
    · cases k
  · rw [List.getElem?_set_ne z] at k
    rw [ws_ne (fun w => z (nd_get nd.2 ha (by rw [← w]; exact h)))]
    exact g.at' i b x h k
end
end
set_option Elab.async false
set_option linter.all false
set_option maxRecDepth 100000
set_option maxHeartbeats 1000000
set_option autoImplicit false
section
open PySem L2
local macro_rules | `(tactic| walk_at "set") => `(tactic| ((try simp only [List.set_cons_succ, List.set_cons_zero]); rfl))
local macro_rules | `(tactic| walk_at "sc") => `(tactic| first | assumption | decide | omega | (unfold CMul; omega) | (unfold CDiv; omega) | (unfold CPow; decide) | (unfold CDiv; decide))
local macro_rules | `(tactic| walk_at "go") => `(tactic| (repeat (first | walk_at "step" | walk_at "callx")))
local macro_rules | `(tactic| walk_at "goN") => `(tactic| (repeat (first | walk_at "step" | walk_at "callx" | ((with_reducible show ∀ p, _ = none → _); walk_at "new"))))
local macro_rules | `(tactic| walk_at "len") => `(tactic| first
  | (obtain ⟨rfl, _⟩ := h; rfl) | (obtain ⟨_, rfl, _⟩ := h; rfl) | (obtain ⟨_, _, rfl, _⟩ := h; rfl) | (obtain ⟨_, _, _, rfl, _⟩ := h; rfl) | (obtain ⟨_, _, _, _, rfl, _⟩ := h; rfl)
  | (obtain ⟨_, _, _, _, _, rfl, _⟩ := h; rfl) | (obtain ⟨_, _, _, _, _, _, rfl, _⟩ := h; rfl) | (obtain ⟨_, _, _, _, _, _, _, rfl, _⟩ := h; rfl) | (obtain ⟨_, _, _, _, _, _, _, _, rfl, _⟩ := h; rfl)
  | (obtain ⟨_, _, _, _, _, _, _, _, _, rfl, _⟩ := h; rfl) | (obtain ⟨_, _, _, _, _, _, _, _, _, _, rfl, _⟩ := h; rfl))
local macro_rules | `(tactic| walk_at "dd") => `(tactic| first | with_reducible assumption | ((with_reducible refine' DctD.own ?h); (case h => walk_at "wk")) | ((with_reducible refine' DctD.lock ?h); (case h => walk_at "wk")))
local macro_rules | `(tactic| walk_at "mat") => `(tactic| first | ((with_reducible refine' MAt.ins ?h ?l); (case h => walk_at "wk"); (case l => rfl)) | ((with_reducible refine' log_mat ?h ?l ?l2); (case h => walk_at "wk"); (case l => decide +kernel); (case l2 => decide +kernel)))
local macro_rules | `(tactic| walk_at "isim") => `(tactic| first | ((with_reducible refine' m_isi_let_ ?t ?k ?h ?e ?_); (case t => assumption); (case e => assumption); (case h => rfl)) | ((with_reducible refine' m_isi_rk ?t ?k ?h ?e ?_); (case t => assumption); (case e => assumption); (case h => rfl)) | ((with_reducible refine' m_isi_take ?t ?k ?h ?e ?_); (case t => assumption); (case e => assumption); (case h => rfl)) | ((with_reducible refine' m_isi_put ?t ?k ?h ?e ?_); (case t => assumption); (case e => assumption); (case h => rfl)) | ((with_reducible refine' m_isi_throw ?t ?k ?h ?e ?_); (case t => assumption); (case e => assumption); (case h => rfl)) | ((with_reducible refine' m_isi_iff ?t ?k ?h ?e ?_); (case t => assumption); (case e => assumption); (case h => rfl)) | ((with_reducible refine' m_isi_eith ?t ?k ?h ?e ?_); (case t => assumption); (case e => assumption); (case h => rfl)) | ((with_reducible refine' m_isi_tryy ?t ?k ?h ?e ?_); (case t => assumption); (case e => assumption); (case h => rfl)))
local macro_rules | `(tactic| walk_at "callm") => `(tactic| ((with_reducible refine' d_addSh ?h ?h2 ?h3 ?_); (case h => walk_at "sh"); (case h2 => walk_at "sh"); (case h3 => decide)))
section
variable {d : Ad} {vs : List V} {H : Hp} {Q : VK} {E : XK}
theorem cutD_le {α : Type} (l : List α) (a b : Option Int) : (cutD l a b).length ≤ l.length := by
  unfold cutD
  rw [List.length_take, List.length_drop]; omega
end
end
set_option Elab.async false
set_option linter.all false
set_option maxRecDepth 100000
set_option maxHeartbeats 1000000
set_option autoImplicit false
section
open PySem L2
local macro_rules | `(tactic| walk_at "set") => `(tactic| ((try simp only [List.set_cons_succ, List.set_cons_zero]); rfl))
local macro_rules | `(tactic| walk_at "sc") => `(tactic| first | assumption | decide | omega | (unfold CMul; omega) | (unfold CDiv; omega) | (unfold CPow; decide) | (unfold CDiv; decide))
local macro_rules | `(tactic| walk_at "go") => `(tactic| (repeat (first | walk_at "step" | walk_at "callx")))
local macro_rules | `(tactic| walk_at "goN") => `(tactic| (repeat (first | walk_at "step" | walk_at "callx" | ((with_reducible show ∀ p, _ = none → _); walk_at "new"))))
local macro_rules | `(tactic| walk_at "len") => `(tactic| first
  | (obtain ⟨rfl, _⟩ := h; rfl) | (obtain ⟨_, rfl, _⟩ := h; rfl) | (obtain ⟨_, _, rfl, _⟩ := h; rfl) | (obtain ⟨_, _, _, rfl, _⟩ := h; rfl) | (obtain ⟨_, _, _, _, rfl, _⟩ := h; rfl)
  | (obtain ⟨_, _, _, _, _, rfl, _⟩ := h; rfl) | (obtain ⟨_, _, _, _, _, _, rfl, _⟩ := h; rfl) | (obtain ⟨_, _, _, _, _, _, _, rfl, _⟩ := h; rfl) | (obtain ⟨_, _, _, _, _, _, _, _, rfl, _⟩ := h; rfl)
  | (obtain ⟨_, _, _, _, _, _, _, _, _, rfl, _⟩ := h; rfl) | (obtain ⟨_, _, _, _, _, _, _, _, _, _, rfl, _⟩ := h; rfl))
local macro_rules | `(tactic| walk_at "dd") => `(tactic| first | with_reducible assumption | ((with_reducible refine' DctD.own ?h); (case h => walk_at "wk")) | ((with_reducible refine' DctD.lock ?h); (case h => walk_at "wk")))
local macro_rules | `(tactic| walk_at "mat") => `(tactic| first | ((with_reducible refine' MAt.ins ?h ?l); (case h => walk_at "wk"); (case l => rfl)) | ((with_reducible refine' log_mat ?h ?l ?l2); (case h => walk_at "wk"); (case l => decide +kernel); (case l2 => decide +kernel)))
local macro_rules | `(tactic| walk_at "isim") => `(tactic| first | ((with_reducible refine' m_isi_let_ ?t ?k ?h ?e ?_); (case t => assumption); (case e => assumption); (case h => rfl)) | ((with_reducible refine' m_isi_rk ?t ?k ?h ?e ?_); (case t => assumption); (case e => assumption); (case h => rfl)) | ((with_reducible refine' m_isi_take ?t ?k ?h ?e ?_); (case t => assumption); (case e => assumption); (case h => rfl)) | ((with_reducible refine' m_isi_put ?t ?k ?h ?e ?_); (case t => assumption); (case e => assumption); (case h => rfl)) | ((with_reducible refine' m_isi_throw ?t ?k ?h ?e ?_); (case t => assumption); (case e => assumption); (case h => rfl)) | ((with_reducible refine' m_isi_iff ?t ?k ?h ?e ?_); (case t => assumption); (case e => assumption); (case h => rfl)) | ((with_reducible refine' m_isi_eith ?t ?k ?h ?e ?_); (case t => assumption); (case e => assumption); (case h => rfl)) | ((with_reducible refine' m_isi_tryy ?t ?k ?h ?e ?_); (case t => assumption); (case e => assumption); (case h => rfl)))
instance : DecidableEq TR := by
  intro a b
  cases a <;> cases b <;> first
    | exact isTrue rfl
    | (apply isFalse; intro h; cases h; done)
    | (rename_i m n; exact if h : m = n then isTrue (by rw [h]) else isFalse fun z => h (by cases z; rfl))
    | (rename_i m b v n c w; exact if h : m = n ∧ b = c ∧ v = w then isTrue (by obtain ⟨rfl, rfl, rfl⟩ := h; rfl) else isFalse fun z => h (by cases z; exact ⟨rfl, rfl, rfl⟩))
section
variable {K : PySem.W.Frag} {W : Wd} {Q : KD} {x y : D}
theorem d_eqSelf {n : Nat} (h : Lay n x) (hn : n ≤ 60) (q : Q (.raw (.bl true)) W) : RD K (rEqD K) x x W Q := by
  obtain ⟨p, h1, h2⟩ := h.shaped (by omega)
  exact d_eqD (.id _) (.id _) h1 h1 h2 h2 (eqv_self h2) q
end
end
set_option Elab.async false
set_option linter.all false
set_option maxRecDepth 100000
set_option maxHeartbeats 1000000
set_option autoImplicit false
section
open PySem L2
structure Fwd (h : Hnd) : Prop where
  a : ∀ (i : Nat) (m : Mrk), h.marks[i]? = some m → h.pc < m.tg
  n : ∀ (i j : Nat) (m x : Mrk), i < j → h.marks[i]? = some m → h.marks[j]? = some x → x.tg < m.tg
theorem Fwd.nil {h : Hnd} (e : h.marks = []) : Fwd h := ⟨fun i m z => by rw [e] at z; simp at z, fun i j m x _ z => by rw [e] at z; simp at z⟩
section
variable {nb : Nat} {h : Hnd}
theorem Fwd.leave (f : Fwd h) {k : Nat} {m : Mrk} (hm : h.marks[k]? = some m) : ∀ (i : Nat) (x : Mrk), (h.marks.take k)[i]? = some x → m.tg < x.tg := fun i x hx => by
  have hi := (List.getElem?_eq_some_iff.mp hx).1
  rw [List.length_take] at hi
  rw [List.getElem?_take_of_lt (by omega)] at hx
  exact f.n i k x m (by omega) hx hm
theorem Fwd.take (f : Fwd h) (k : Nat) : ∀ (i j : Nat) (m x : Mrk), i < j → (h.marks.take k)[i]? = some m → (h.marks.take k)[j]? = some x → x.tg < m.tg := fun i j m x hij hi hj => by
  have h1 := (List.getElem?_eq_some_iff.mp hi).1
  have h2 := (List.getElem?_eq_some_iff.mp hj).1
  rw [List.length_take] at h1 h2
  rw [List.getElem?_take_of_lt (by omega)] at hi hj
  exact f.n i j m x hij hi hj
end
section
variable {S : HallM} {i : Nat} {h : Hnd}
end
end
set_option Elab.async false
set_option linter.all false
set_option maxRecDepth 100000
set_option maxHeartbeats 1000000
set_option autoImplicit false
section
open PySem L2
section
variable {S S' : HallM} {i : Nat} {h : Hnd} {t : TR}
end
section
variable {S : HallM}
end
end
set_option Elab.async false
set_option linter.all false
set_option maxRecDepth 100000
set_option maxHeartbeats 1000000
set_option autoImplicit false
section
open PySem L2
end
set_option Elab.async false
set_option linter.all false
set_option maxRecDepth 100000
set_option maxHeartbeats 1000000
set_option autoImplicit false
section
open PySem L2 PyProof.Rows
end
set_option Elab.async false
set_option linter.all false
set_option maxRecDepth 100000
set_option maxHeartbeats 1000000
set_option autoImplicit false
section
open PySem L2
section
variable {K : PySem.W.Frag} {W : Wd} {Q : KD} {p q : Addr}
end
end
set_option Elab.async false
set_option linter.all false
set_option maxRecDepth 100000
set_option maxHeartbeats 1000000
set_option autoImplicit false
section
open PySem L2
local macro_rules | `(tactic| walk_at "set") => `(tactic| ((try simp only [List.set_cons_succ, List.set_cons_zero]); rfl))
local macro_rules | `(tactic| walk_at "sc") => `(tactic| first | assumption | decide | omega | (unfold CMul; omega) | (unfold CDiv; omega) | (unfold CPow; decide) | (unfold CDiv; decide))
local macro_rules | `(tactic| walk_at "go") => `(tactic| (repeat (first | walk_at "step" | walk_at "callx")))
local macro_rules | `(tactic| walk_at "goN") => `(tactic| (repeat (first | walk_at "step" | walk_at "callx" | ((with_reducible show ∀ p, _ = none → _); walk_at "new"))))
local macro_rules | `(tactic| walk_at "len") => `(tactic| first
  | (obtain ⟨rfl, _⟩ := h; rfl) | (obtain ⟨_, rfl, _⟩ := h; rfl) | (obtain ⟨_, _, rfl, _⟩ := h; rfl) | (obtain ⟨_, _, _, rfl, _⟩ := h; rfl) | (obtain ⟨_, _, _, _, rfl, _⟩ := h; rfl)
  | (obtain ⟨_, _, _, _, _, rfl, _⟩ := h; rfl) | (obtain ⟨_, _, _, _, _, _, rfl, _⟩ := h; rfl) | (obtain ⟨_, _, _, _, _, _, _, rfl, _⟩ := h; rfl) | (obtain ⟨_, _, _, _, _, _, _, _, rfl, _⟩ := h; rfl)
  | (obtain ⟨_, _, _, _, _, _, _, _, _, rfl, _⟩ := h; rfl) | (obtain ⟨_, _, _, _, _, _, _, _, _, _, rfl, _⟩ := h; rfl))
local macro_rules | `(tactic| walk_at "dd") => `(tactic| first | with_reducible assumption | ((with_reducible refine' DctD.own ?h); (case h => walk_at "wk")) | ((with_reducible refine' DctD.lock ?h); (case h => walk_at "wk")))
local macro_rules | `(tactic| walk_at "mat") => `(tactic| first | ((with_reducible refine' MAt.ins ?h ?l); (case h => walk_at "wk"); (case l => rfl)) | ((with_reducible refine' log_mat ?h ?l ?l2); (case h => walk_at "wk"); (case l => decide +kernel); (case l2 => decide +kernel)))
local macro_rules | `(tactic| walk_at "isim") => `(tactic| first | ((with_reducible refine' m_isi_let_ ?t ?k ?h ?e ?_); (case t => assumption); (case e => assumption); (case h => rfl)) | ((with_reducible refine' m_isi_rk ?t ?k ?h ?e ?_); (case t => assumption); (case e => assumption); (case h => rfl)) | ((with_reducible refine' m_isi_take ?t ?k ?h ?e ?_); (case t => assumption); (case e => assumption); (case h => rfl)) | ((with_reducible refine' m_isi_put ?t ?k ?h ?e ?_); (case t => assumption); (case e => assumption); (case h => rfl)) | ((with_reducible refine' m_isi_throw ?t ?k ?h ?e ?_); (case t => assumption); (case e => assumption); (case h => rfl)) | ((with_reducible refine' m_isi_iff ?t ?k ?h ?e ?_); (case t => assumption); (case e => assumption); (case h => rfl)) | ((with_reducible refine' m_isi_eith ?t ?k ?h ?e ?_); (case t => assumption); (case e => assumption); (case h => rfl)) | ((with_reducible refine' m_isi_tryy ?t ?k ?h ?e ?_); (case t => assumption); (case e => assumption); (case h => rfl)))
theorem sok_sl {s : Str} (h : Sl s) : PyData.strOk s = true := by
  obtain ⟨k, hk, rfl⟩ := h
  show (#[97 + k] : Array Nat).all _ = true
  simp; omega
theorem sok_five {s : Str} (h : s ∈ five) : PyData.strOk s = true := by
  simp only [five, List.mem_cons, List.not_mem_nil, or_false] at h
  rcases h with rfl | rfl | rfl | rfl | rfl <;> decide +kernel
theorem side_tx {ps : List Pt} (h : ps ≠ []) : "( " ++ wr ps ++ " )" = wrIn ps := by
  have np := toksOf_ne h
  rw [show ("( " : Str) = txs ["("] by decide +kernel, tx_wr ps, txs_tx (by simp) np, tx_lit (ws := [")"]) (by decide +kernel) (by simp) (by simp)]
  rfl
theorem in_ne (ps : List Pt) : inT ps ≠ [] := inT_ne ps
theorem wr_one (p : Pt) : wr [p] = wrP p := by
  unfold wr
  rw [toksOf, tailT, List.append_nil]
theorem iff_tx (s : Str) (ps os : List Pt) : "if " ++ s ++ " " ++ wrIn ps ++ " else " ++ wrIn os = wr [.iff s ps os] := by
  rw [wr_one]
  show "if " ++ s ++ " " ++ tx (inT ps) ++ " else " ++ tx (inT os) = tx (tokP _)
  rw [show ("if " : Str) = txs ["if"] by decide +kernel, ← tx_one s, txs_tx (by simp) (by simp), tx_cat (by simp) (in_ne ps), tx_mid (ws := ["else"]) (by decide +kernel) (by simp) (by simp), txs_tx (by simp) (in_ne os), tok_iff]
  congr 1
  simp [tx_one]
theorem eith_tx (ps os : List Pt) : "either " ++ wrIn ps ++ " or " ++ wrIn os = wr [.eith ps os] := by
  rw [wr_one]
  show "either " ++ tx (inT ps) ++ " or " ++ tx (inT os) = tx (tokP _)
  rw [show ("either " : Str) = txs ["either"] by decide +kernel, txs_tx (by simp) (in_ne ps), tx_mid (ws := ["or"]) (by decide +kernel) (by simp) (by simp), txs_tx (by simp) (in_ne os), tok_eith]
  congr 1
  simp
local macro_rules | `(tactic| walk_at "callm") => `(tactic| first | ((with_reducible refine' d_addSh ?h ?h2 ?h3 ?_); (case h => walk_at "sh"); (case h2 => walk_at "sh"); (case h3 => decide)))
section
variable {d : Ad} {vs : List V} {H : Hp} {Q : VK} {E : XK}
theorem wrIn_sh {ps : List Pt} (ok : okPs ps) (l : lenPs ps ≤ 200) : Short 60 (wrIn ps) := by
  have := wrIn_len ok
  unfold Short
  omega
end
end
set_option Elab.async false
set_option linter.all false
set_option maxRecDepth 100000
set_option maxHeartbeats 400000
set_option autoImplicit false
section
open PySem L2
section
variable {d : Ad} {vs : List V} {H : Hp} {Q : VK} {E : XK}
end
local macro_rules | `(tactic| walk_at "set") => `(tactic| ((try simp only [List.set_cons_succ, List.set_cons_zero]); rfl))
local macro_rules | `(tactic| walk_at "sc") => `(tactic| first | assumption | decide | omega | (unfold CMul; omega) | (unfold CDiv; omega) | (unfold CPow; decide) | (unfold CDiv; decide))
local macro_rules | `(tactic| walk_at "go") => `(tactic| (repeat (first | walk_at "step" | walk_at "callx")))
local macro_rules | `(tactic| walk_at "goN") => `(tactic| (repeat (first | walk_at "step" | walk_at "callx" | ((with_reducible show ∀ p, _ = none → _); walk_at "new"))))
local macro_rules | `(tactic| walk_at "len") => `(tactic| first
  | (obtain ⟨rfl, _⟩ := h; rfl) | (obtain ⟨_, rfl, _⟩ := h; rfl) | (obtain ⟨_, _, rfl, _⟩ := h; rfl) | (obtain ⟨_, _, _, rfl, _⟩ := h; rfl) | (obtain ⟨_, _, _, _, rfl, _⟩ := h; rfl)
  | (obtain ⟨_, _, _, _, _, rfl, _⟩ := h; rfl) | (obtain ⟨_, _, _, _, _, _, rfl, _⟩ := h; rfl) | (obtain ⟨_, _, _, _, _, _, _, rfl, _⟩ := h; rfl) | (obtain ⟨_, _, _, _, _, _, _, _, rfl, _⟩ := h; rfl)
  | (obtain ⟨_, _, _, _, _, _, _, _, _, rfl, _⟩ := h; rfl) | (obtain ⟨_, _, _, _, _, _, _, _, _, _, rfl, _⟩ := h; rfl))
local macro_rules | `(tactic| walk_at "dd") => `(tactic| first | with_reducible assumption | ((with_reducible refine' DctD.own ?h); (case h => walk_at "wk")) | ((with_reducible refine' DctD.lock ?h); (case h => walk_at "wk")))
local macro_rules | `(tactic| walk_at "mat") => `(tactic| first | ((with_reducible refine' MAt.ins ?h ?l); (case h => walk_at "wk"); (case l => rfl)) | ((with_reducible refine' log_mat ?h ?l ?l2); (case h => walk_at "wk"); (case l => decide +kernel); (case l2 => decide +kernel)))
local macro_rules | `(tactic| walk_at "isim") => `(tactic| first | ((with_reducible refine' m_isi_let_ ?t ?k ?h ?e ?_); (case t => assumption); (case e => assumption); (case h => rfl)) | ((with_reducible refine' m_isi_rk ?t ?k ?h ?e ?_); (case t => assumption); (case e => assumption); (case h => rfl)) | ((with_reducible refine' m_isi_take ?t ?k ?h ?e ?_); (case t => assumption); (case e => assumption); (case h => rfl)) | ((with_reducible refine' m_isi_put ?t ?k ?h ?e ?_); (case t => assumption); (case e => assumption); (case h => rfl)) | ((with_reducible refine' m_isi_throw ?t ?k ?h ?e ?_); (case t => assumption); (case e => assumption); (case h => rfl)) | ((with_reducible refine' m_isi_iff ?t ?k ?h ?e ?_); (case t => assumption); (case e => assumption); (case h => rfl)) | ((with_reducible refine' m_isi_eith ?t ?k ?h ?e ?_); (case t => assumption); (case e => assumption); (case h => rfl)) | ((with_reducible refine' m_isi_tryy ?t ?k ?h ?e ?_); (case t => assumption); (case e => assumption); (case h => rfl)))
local macro_rules | `(tactic| walk_at "callm") => `(tactic| fail)
section
variable {d : Ad} {vs : List V} {H : Hp} {Q : VK} {E : XK}
theorem nameOk_of {s : Str} (h : decide ((s.cps.toList.all fun c => decide (97 ≤ c ∧ c ≤ 122)) = true ∧ 1 ≤ s.length ∧ s.length ≤ 8) = true) : NameOk s := by
  have := of_decide_eq_true h
  exact ⟨fun c hc => of_decide_eq_true (List.all_eq_true.mp this.1 c hc), this.2.1, this.2.2⟩
local macro_rules | `(tactic| walk_at "callm") => `(tactic| first | ((with_reducible refine' d_addSh ?h ?h2 ?h3 ?_); (case h => walk_at "sh"); (case h2 => walk_at "sh"); (case h3 => decide)))
end
end
set_option Elab.async false
set_option linter.all false
set_option maxRecDepth 100000
set_option maxHeartbeats 1000000
set_option autoImplicit false
section
open PySem L2
local macro_rules | `(tactic| walk_at "set") => `(tactic| ((try simp only [List.set_cons_succ, List.set_cons_zero]); rfl))
local macro_rules | `(tactic| walk_at "sc") => `(tactic| first | assumption | decide | omega | (unfold CMul; omega) | (unfold CDiv; omega) | (unfold CPow; decide) | (unfold CDiv; decide))
local macro_rules | `(tactic| walk_at "go") => `(tactic| (repeat (first | walk_at "step" | walk_at "callx")))
local macro_rules | `(tactic| walk_at "goN") => `(tactic| (repeat (first | walk_at "step" | walk_at "callx" | ((with_reducible show ∀ p, _ = none → _); walk_at "new"))))
local macro_rules | `(tactic| walk_at "len") => `(tactic| first
  | (obtain ⟨rfl, _⟩ := h; rfl) | (obtain ⟨_, rfl, _⟩ := h; rfl) | (obtain ⟨_, _, rfl, _⟩ := h; rfl) | (obtain ⟨_, _, _, rfl, _⟩ := h; rfl) | (obtain ⟨_, _, _, _, rfl, _⟩ := h; rfl)
  | (obtain ⟨_, _, _, _, _, rfl, _⟩ := h; rfl) | (obtain ⟨_, _, _, _, _, _, rfl, _⟩ := h; rfl) | (obtain ⟨_, _, _, _, _, _, _, rfl, _⟩ := h; rfl) | (obtain ⟨_, _, _, _, _, _, _, _, rfl, _⟩ := h; rfl)
  | (obtain ⟨_, _, _, _, _, _, _, _, _, rfl, _⟩ := h; rfl) | (obtain ⟨_, _, _, _, _, _, _, _, _, _, rfl, _⟩ := h; rfl))
local macro_rules | `(tactic| walk_at "dd") => `(tactic| first | with_reducible assumption | ((with_reducible refine' DctD.own ?h); (case h => walk_at "wk")) | ((with_reducible refine' DctD.lock ?h); (case h => walk_at "wk")))
local macro_rules | `(tactic| walk_at "mat") => `(tactic| first | ((with_reducible refine' MAt.ins ?h ?l); (case h => walk_at "wk"); (case l => rfl)) | ((with_reducible refine' log_mat ?h ?l ?l2); (case h => walk_at "wk"); (case l => decide +kernel); (case l2 => decide +kernel)))
local macro_rules | `(tactic| walk_at "isim") => `(tactic| first | ((with_reducible refine' m_isi_let_ ?t ?k ?h ?e ?_); (case t => assumption); (case e => assumption); (case h => rfl)) | ((with_reducible refine' m_isi_rk ?t ?k ?h ?e ?_); (case t => assumption); (case e => assumption); (case h => rfl)) | ((with_reducible refine' m_isi_take ?t ?k ?h ?e ?_); (case t => assumption); (case e => assumption); (case h => rfl)) | ((with_reducible refine' m_isi_put ?t ?k ?h ?e ?_); (case t => assumption); (case e => assumption); (case h => rfl)) | ((with_reducible refine' m_isi_throw ?t ?k ?h ?e ?_); (case t => assumption); (case e => assumption); (case h => rfl)) | ((with_reducible refine' m_isi_iff ?t ?k ?h ?e ?_); (case t => assumption); (case e => assumption); (case h => rfl)) | ((with_reducible refine' m_isi_eith ?t ?k ?h ?e ?_); (case t => assumption); (case e => assumption); (case h => rfl)) | ((with_reducible refine' m_isi_tryy ?t ?k ?h ?e ?_); (case t => assumption); (case e => assumption); (case h => rfl)))
local macro_rules | `(tactic| walk_at "callm") => `(tactic| first | ((with_reducible refine' d_addSh ?h ?h2 ?h3 ?_); (case h => walk_at "sh"); (case h2 => walk_at "sh"); (case h3 => decide)))
section
variable {d : Ad} {vs : List V} {H : Hp} {Q : VK} {E : XK}
end
end
set_option Elab.async false
set_option linter.all false
set_option maxRecDepth 100000
set_option maxHeartbeats 1000000
set_option autoImplicit false
section
open PySem L2
local macro_rules | `(tactic| walk_at "set") => `(tactic| ((try simp only [List.set_cons_succ, List.set_cons_zero]); rfl))
local macro_rules | `(tactic| walk_at "sc") => `(tactic| first | assumption | decide | omega | (unfold CMul; omega) | (unfold CDiv; omega) | (unfold CPow; decide) | (unfold CDiv; decide))
local macro_rules | `(tactic| walk_at "go") => `(tactic| (repeat (first | walk_at "step" | walk_at "callx")))
local macro_rules | `(tactic| walk_at "goN") => `(tactic| (repeat (first | walk_at "step" | walk_at "callx" | ((with_reducible show ∀ p, _ = none → _); walk_at "new"))))
local macro_rules | `(tactic| walk_at "len") => `(tactic| first
  | (obtain ⟨rfl, _⟩ := h; rfl) | (obtain ⟨_, rfl, _⟩ := h; rfl) | (obtain ⟨_, _, rfl, _⟩ := h; rfl) | (obtain ⟨_, _, _, rfl, _⟩ := h; rfl) | (obtain ⟨_, _, _, _, rfl, _⟩ := h; rfl)
  | (obtain ⟨_, _, _, _, _, rfl, _⟩ := h; rfl) | (obtain ⟨_, _, _, _, _, _, rfl, _⟩ := h; rfl) | (obtain ⟨_, _, _, _, _, _, _, rfl, _⟩ := h; rfl) | (obtain ⟨_, _, _, _, _, _, _, _, rfl, _⟩ := h; rfl)
  | (obtain ⟨_, _, _, _, _, _, _, _, _, rfl, _⟩ := h; rfl) | (obtain ⟨_, _, _, _, _, _, _, _, _, _, rfl, _⟩ := h; rfl))
local macro_rules | `(tactic| walk_at "dd") => `(tactic| first | with_reducible assumption | ((with_reducible refine' DctD.own ?h); (case h => walk_at "wk")) | ((with_reducible refine' DctD.lock ?h); (case h => walk_at "wk")))
local macro_rules | `(tactic| walk_at "mat") => `(tactic| first | ((with_reducible refine' MAt.ins ?h ?l); (case h => walk_at "wk"); (case l => rfl)) | ((with_reducible refine' log_mat ?h ?l ?l2); (case h => walk_at "wk"); (case l => decide +kernel); (case l2 => decide +kernel)))
local macro_rules | `(tactic| walk_at "isim") => `(tactic| first | ((with_reducible refine' m_isi_let_ ?t ?k ?h ?e ?_); (case t => assumption); (case e => assumption); (case h => rfl)) | ((with_reducible refine' m_isi_rk ?t ?k ?h ?e ?_); (case t => assumption); (case e => assumption); (case h => rfl)) | ((with_reducible refine' m_isi_take ?t ?k ?h ?e ?_); (case t => assumption); (case e => assumption); (case h => rfl)) | ((with_reducible refine' m_isi_put ?t ?k ?h ?e ?_); (case t => assumption); (case e => assumption); (case h => rfl)) | ((with_reducible refine' m_isi_throw ?t ?k ?h ?e ?_); (case t => assumption); (case e => assumption); (case h => rfl)) | ((with_reducible refine' m_isi_iff ?t ?k ?h ?e ?_); (case t => assumption); (case e => assumption); (case h => rfl)) | ((with_reducible refine' m_isi_eith ?t ?k ?h ?e ?_); (case t => assumption); (case e => assumption); (case h => rfl)) | ((with_reducible refine' m_isi_tryy ?t ?k ?h ?e ?_); (case t => assumption); (case e => assumption); (case h => rfl)))
def TPart (d : Ad) : Prop := ∀ k, PySem.W.kitOne d.K (.ref (cOf d k)) (.ref d.cPart) = some true
def kdP : Pt → Kd
  | .let_ _ _ => .let_
  | .rk _ _ _ _ => .rk
  | .take _ _ => .take
  | .put _ _ => .put
  | .iff _ _ _ => .iff
  | .eith _ _ => .eith
  | .tryy _ _ _ _ => .tryy
  | .throw _ _ => .throw
  | .wait => .wait
theorem pD_obj (d : Ad) (p : Pt) : ∃ ns ds, pD d p = .obj (cOf d (kdP p)) ns ds := by
  cases p <;> (rw [pD]; exact ⟨_, _, rfl⟩)
theorem d_isiPt {d : Ad} {W : Wd} {Q : KD} (T : TParts d) (TP : TPart d) {p : Pt} (q : Q (.raw (.bl true)) W) : RC d.K (rIsi d.K) [pD d p, .raw (.ref d.cPart)] W Q := fun B H vs kk s r hk => by
  obtain ⟨ns, ds, e⟩ := pD_obj d p
  rw [e] at r
  cases r with
  | cons r1 r2 =>
    cases r2 with
    | cons r2 r3 =>
      cases r2; cases r3
      cases r1 with
      | obj g hl hs => exact w_isi (.own _) (ty_part T (s.ex _ _ g)) (TP _) (hk _ B H _ W (Evl.Ex.refl _) s (.raw _) q)
theorem d_isiK {d : Ad} {W : Wd} {Q : KD} (T : TParts d) {p : Pt} {j : Kd} {C : Addr} (hj : j ≠ .wait) (eC : cOf d j = C) (q : Q (.raw (.bl (decide (kdP p = j)))) W) : RC d.K (rIsi d.K) [pD d p, .raw (.ref C)] W Q := by
  obtain ⟨ns, ds, e⟩ := pD_obj d p
  rw [e, ← eC]
  exact d_isiO T hj rfl q
local macro_rules | `(tactic| walk_at "callm") => `(tactic| fail)
section
variable {d : Ad} {vs : List V} {H : Hp} {Q : VK} {E : XK}
end
end
set_option Elab.async false
set_option linter.all false
set_option maxRecDepth 100000
set_option maxHeartbeats 1000000
set_option autoImplicit false
section
open PySem L2
local macro_rules | `(tactic| walk_at "set") => `(tactic| ((try simp only [List.set_cons_succ, List.set_cons_zero]); rfl))
local macro_rules | `(tactic| walk_at "sc") => `(tactic| first | assumption | decide | omega | (unfold CMul; omega) | (unfold CDiv; omega) | (unfold CPow; decide) | (unfold CDiv; decide))
local macro_rules | `(tactic| walk_at "go") => `(tactic| (repeat (first | walk_at "step" | walk_at "callx")))
local macro_rules | `(tactic| walk_at "goN") => `(tactic| (repeat (first | walk_at "step" | walk_at "callx" | ((with_reducible show ∀ p, _ = none → _); walk_at "new"))))
local macro_rules | `(tactic| walk_at "len") => `(tactic| first
  | (obtain ⟨rfl, _⟩ := h; rfl) | (obtain ⟨_, rfl, _⟩ := h; rfl) | (obtain ⟨_, _, rfl, _⟩ := h; rfl) | (obtain ⟨_, _, _, rfl, _⟩ := h; rfl) | (obtain ⟨_, _, _, _, rfl, _⟩ := h; rfl)
  | (obtain ⟨_, _, _, _, _, rfl, _⟩ := h; rfl) | (obtain ⟨_, _, _, _, _, _, rfl, _⟩ := h; rfl) | (obtain ⟨_, _, _, _, _, _, _, rfl, _⟩ := h; rfl) | (obtain ⟨_, _, _, _, _, _, _, _, rfl, _⟩ := h; rfl)
  | (obtain ⟨_, _, _, _, _, _, _, _, _, rfl, _⟩ := h; rfl) | (obtain ⟨_, _, _, _, _, _, _, _, _, _, rfl, _⟩ := h; rfl))
local macro_rules | `(tactic| walk_at "dd") => `(tactic| first | with_reducible assumption | ((with_reducible refine' DctD.own ?h); (case h => walk_at "wk")) | ((with_reducible refine' DctD.lock ?h); (case h => walk_at "wk")))
local macro_rules | `(tactic| walk_at "mat") => `(tactic| first | ((with_reducible refine' MAt.ins ?h ?l); (case h => walk_at "wk"); (case l => rfl)) | ((with_reducible refine' log_mat ?h ?l ?l2); (case h => walk_at "wk"); (case l => decide +kernel); (case l2 => decide +kernel)))
local macro_rules | `(tactic| walk_at "isim") => `(tactic| first | ((with_reducible refine' m_isi_let_ ?t ?k ?h ?e ?_); (case t => assumption); (case e => assumption); (case h => rfl)) | ((with_reducible refine' m_isi_rk ?t ?k ?h ?e ?_); (case t => assumption); (case e => assumption); (case h => rfl)) | ((with_reducible refine' m_isi_take ?t ?k ?h ?e ?_); (case t => assumption); (case e => assumption); (case h => rfl)) | ((with_reducible refine' m_isi_put ?t ?k ?h ?e ?_); (case t => assumption); (case e => assumption); (case h => rfl)) | ((with_reducible refine' m_isi_throw ?t ?k ?h ?e ?_); (case t => assumption); (case e => assumption); (case h => rfl)) | ((with_reducible refine' m_isi_iff ?t ?k ?h ?e ?_); (case t => assumption); (case e => assumption); (case h => rfl)) | ((with_reducible refine' m_isi_eith ?t ?k ?h ?e ?_); (case t => assumption); (case e => assumption); (case h => rfl)) | ((with_reducible refine' m_isi_tryy ?t ?k ?h ?e ?_); (case t => assumption); (case e => assumption); (case h => rfl)))
local macro_rules | `(tactic| walk_at "callm") => `(tactic| fail)
section
variable {d : Ad} {vs : List V} {H : Hp} {Q : VK} {E : XK}
end
end
set_option Elab.async false
set_option linter.all false
set_option maxRecDepth 100000
set_option maxHeartbeats 2000000
set_option autoImplicit false
section
open PySem L2
section
variable {K : PySem.W.Frag} {e : Env} {W : Wd} {Q : KD}
end
end
set_option Elab.async false
set_option linter.all false
set_option maxRecDepth 100000
set_option maxHeartbeats 1000000
set_option autoImplicit false
section
open PySem L2
theorem tx_word {a : List Str} (w : Str) (ha : a ≠ []) : txs a ++ w = tx (a ++ [w]) := by
  rw [← txs_tx ha (by simp), tx_one]
theorem tx_blank {a : List Str} : tx a ++ " " = txs a := rfl
section
variable {n m v : Int} {s o t w : Str}
theorem pf0 : "let " ++ s ++ " " ++ numS v = wr [.let_ s v] := by
  rw [show ("let " : Str) = txs ["let"] by decide +kernel, tx_word s (by simp), tx_blank, tx_word (numS v) (by simp)]; exact tk_eq (by simp [toksOf, tailT, tokP])
theorem pf1 : w ++ " " ++ s ++ " " ++ o ++ " " ++ t = wr [.rk w s o t] := by
  have e : w ++ " " = txs [w] := by unfold txs; rw [tx_one]
  rw [e, tx_word s (by simp), tx_blank, tx_word o (by simp), tx_blank, tx_word t (by simp)]; exact tk_eq (by simp [toksOf, tailT, tokP])
end
end
set_option Elab.async false
set_option linter.all false
set_option maxRecDepth 100000
set_option maxHeartbeats 1000000
set_option autoImplicit false
section
open PySem L2
local macro_rules | `(tactic| walk_at "set") => `(tactic| ((try simp only [List.set_cons_succ, List.set_cons_zero]); rfl))
local macro_rules | `(tactic| walk_at "sc") => `(tactic| first | assumption | decide | omega | (unfold CMul; omega) | (unfold CDiv; omega) | (unfold CPow; decide) | (unfold CDiv; decide))
local macro_rules | `(tactic| walk_at "go") => `(tactic| (repeat (first | walk_at "step" | walk_at "callx")))
local macro_rules | `(tactic| walk_at "goN") => `(tactic| (repeat (first | walk_at "step" | walk_at "callx" | ((with_reducible show ∀ p, _ = none → _); walk_at "new"))))
local macro_rules | `(tactic| walk_at "len") => `(tactic| first
  | (obtain ⟨rfl, _⟩ := h; rfl) | (obtain ⟨_, rfl, _⟩ := h; rfl) | (obtain ⟨_, _, rfl, _⟩ := h; rfl) | (obtain ⟨_, _, _, rfl, _⟩ := h; rfl) | (obtain ⟨_, _, _, _, rfl, _⟩ := h; rfl)
  | (obtain ⟨_, _, _, _, _, rfl, _⟩ := h; rfl) | (obtain ⟨_, _, _, _, _, _, rfl, _⟩ := h; rfl) | (obtain ⟨_, _, _, _, _, _, _, rfl, _⟩ := h; rfl) | (obtain ⟨_, _, _, _, _, _, _, _, rfl, _⟩ := h; rfl)
  | (obtain ⟨_, _, _, _, _, _, _, _, _, rfl, _⟩ := h; rfl) | (obtain ⟨_, _, _, _, _, _, _, _, _, _, rfl, _⟩ := h; rfl))
local macro_rules | `(tactic| walk_at "dd") => `(tactic| first | with_reducible assumption | ((with_reducible refine' DctD.own ?h); (case h => walk_at "wk")) | ((with_reducible refine' DctD.lock ?h); (case h => walk_at "wk")))
local macro_rules | `(tactic| walk_at "mat") => `(tactic| first | ((with_reducible refine' MAt.ins ?h ?l); (case h => walk_at "wk"); (case l => rfl)) | ((with_reducible refine' log_mat ?h ?l ?l2); (case h => walk_at "wk"); (case l => decide +kernel); (case l2 => decide +kernel)))
local macro_rules | `(tactic| walk_at "isim") => `(tactic| first | ((with_reducible refine' m_isi_let_ ?t ?k ?h ?e ?_); (case t => assumption); (case e => assumption); (case h => rfl)) | ((with_reducible refine' m_isi_rk ?t ?k ?h ?e ?_); (case t => assumption); (case e => assumption); (case h => rfl)) | ((with_reducible refine' m_isi_take ?t ?k ?h ?e ?_); (case t => assumption); (case e => assumption); (case h => rfl)) | ((with_reducible refine' m_isi_put ?t ?k ?h ?e ?_); (case t => assumption); (case e => assumption); (case h => rfl)) | ((with_reducible refine' m_isi_throw ?t ?k ?h ?e ?_); (case t => assumption); (case e => assumption); (case h => rfl)) | ((with_reducible refine' m_isi_iff ?t ?k ?h ?e ?_); (case t => assumption); (case e => assumption); (case h => rfl)) | ((with_reducible refine' m_isi_eith ?t ?k ?h ?e ?_); (case t => assumption); (case e => assumption); (case h => rfl)) | ((with_reducible refine' m_isi_tryy ?t ?k ?h ?e ?_); (case t => assumption); (case e => assumption); (case h => rfl)))
def slF (m : Int) : Str := lt1 (97 + (m % 8).toNat)
def nmF (c : Int) : Int := if c % 3 = 0 then c / 3 % 12 else if c % 3 = 1 then 18446744073709551616 - 1 - c / 3 % 5 else c / 3 % 18446744073709551616
def naS (c a : Int) (k : Nat) : Int := if ((k : Nat) : Int) = a then c / 256 + ((k : Nat) : Int) * ((k : Nat) : Int) + c / 6656 else c / 256 + ((k : Nat) : Int) * ((k : Nat) : Int)
def naR (c a : Int) : Nat → Str
  | 0 => ""
  | k + 1 => naR c a k ++ lt1 (97 + (naS c a k % 26).toNat)
abbrev naM : List Str := ["on", "else", "a", "wait", "or", "let", "throw", "if"]
def naF (c : Int) : Str := if c % 4 = 1 then naM.getD (c / 4 % 8).toNat "" else naR c (c / 32 % (1 + c / 4 % 8)) (1 + c / 4 % 8).toNat
def wdF (m : Int) : Str := five.getD (m / 512 % 5).toNat ""
def plF (w c : Int) : Pt :=
  if w = 0 then .let_ (slF (c * 48271 % 2147483647)) (nmF c)
  else if w = 1 then .rk (wdF (c * 48271 % 2147483647)) (slF (c * 48271 % 2147483647)) (slF (c * 48271 % 2147483647 / 8)) (slF (c * 48271 % 2147483647 / 64))
  else if w = 2 then .take (slF (c * 48271 % 2147483647)) (slF (c * 48271 % 2147483647 / 8))
  else if w = 3 then .put (slF (c * 48271 % 2147483647)) (slF (c * 48271 % 2147483647 / 8))
  else if w = 4 then .throw (naF c) (slF (c * 48271 % 2147483647))
  else .wait
theorem slF_ok (m : Int) : Sl (slF m) := ⟨(m % 8).toNat, by omega, rfl⟩
theorem nmF_ok (c : Int) : 0 ≤ nmF c ∧ nmF c < 18446744073709551616 := by
  unfold nmF
  split
  · omega
  · split <;> omega
theorem naR_ok (c a : Int) : ∀ k, AZ (naR c a k) ∧ (naR c a k).length = k
  | 0 => ⟨AZ.nil, (by decide +kernel : ("" : Str).length = 0)⟩
  | k + 1 => by
    obtain ⟨h1, h2⟩ := naR_ok c a k
    exact ⟨h1.app (AZ.lt1 (by omega)), by rw [naR, str_len_app, lt1_len, h2]⟩
theorem naM_ok : ∀ w ∈ naM, NameOk w := fun w h => by
  simp only [naM, List.mem_cons, List.not_mem_nil, or_false] at h
  rcases h with rfl | rfl | rfl | rfl | rfl | rfl | rfl | rfl <;> exact nameOk_of (by decide +kernel)
theorem naF_ok (c : Int) : NameOk (naF c) := by
  unfold naF
  split
  · have lt : (c / 4 % 8).toNat < naM.length := by show _ < 8; omega
    rw [List.getD_eq_getElem?_getD, List.getElem?_eq_getElem lt]
    exact naM_ok _ (List.getElem_mem _)
  · obtain ⟨h1, h2⟩ := naR_ok c (c / 32 % (1 + c / 4 % 8)) (1 + c / 4 % 8).toNat
    exact ⟨h1, by omega, by omega⟩
theorem wdF_ok (m : Int) : wdF m ∈ five := by
  unfold wdF
  have lt : (m / 512 % 5).toNat < five.length := by show _ < 5; omega
  rw [List.getD_eq_getElem?_getD, List.getElem?_eq_getElem lt]
  exact List.getElem_mem _
theorem plF_ok (w c : Int) : okP (plF w c) ∧ isPlain (plF w c) = true := by
  unfold plF
  split
  · exact ⟨⟨slF_ok _, nmF_ok _⟩, rfl⟩
  split
  · exact ⟨⟨wdF_ok _, slF_ok _, slF_ok _, slF_ok _⟩, rfl⟩
  split
  · exact ⟨⟨slF_ok _, slF_ok _⟩, rfl⟩
  split
  · exact ⟨⟨slF_ok _, slF_ok _⟩, rfl⟩
  split
  · exact ⟨⟨naF_ok _, slF_ok _⟩, rfl⟩
  · exact ⟨trivial, rfl⟩
def p_z_whole (_ : Ad) : PF := fun ds W Q => ∃ n : Int, ds = [.int n] ∧ Q (.bl true) W
def p_z_name (_ : Ad) : PF := fun ds W Q => ∃ c : Int, ds = [.int c] ∧ Q (.str (naF c)) W
def p_z_slot (_ : Ad) : PF := fun ds W Q => ∃ m : Int, ds = [.int m] ∧ Q (.str (slF m)) W
def p_z_number (_ : Ad) : PF := fun ds W Q => ∃ c : Int, ds = [.int c] ∧ Q (.int (nmF c)) W
def p_z_plain_pair (d : Ad) : PF := fun ds W Q => ∃ w c : Int, ds = [.int w, .int c] ∧ Q (.tup [pD d (plF w c), .raw (.str (wrP (plF w c)))]) W
def p_z_plain_right (d : Ad) : PF := fun ds W Q => ∃ w c : Int, ds = [pD d (plF w c), .int w, .int c] ∧ Q (.bl true) W
abbrev sp_z_whole (d : Ad) : Sp := lift d.K (p_z_whole d)
abbrev sp_z_name (d : Ad) : Sp := lift d.K (p_z_name d)
abbrev sp_z_slot (d : Ad) : Sp := lift d.K (p_z_slot d)
abbrev sp_z_number (d : Ad) : Sp := lift d.K (p_z_number d)
abbrev sp_z_plain_pair (d : Ad) : Sp := lift d.K (p_z_plain_pair d)
abbrev sp_z_plain_right (d : Ad) : Sp := lift d.K (p_z_plain_right d)
abbrev N_z_whole : List Str := ["_law_found"]
def t_z_whole (d : Ad) : TS :=
  (tRet (tAndV (tCB (rIsi d.K) (tCons (tVar 0) (tCons (tC (.ty "int")) tNil))) (tNotV (tCB (rIsi d.K) (tCons (tVar 0) (tCons (tC (.ty "bool")) tNil))))))
abbrev N_z_name : List Str := ["_law_cell", "_law_letters", "_law_size", "_law_at", "_law_name_here", "_law_k", "_law_sign"]
def t_z_name (d : Ad) : TS :=
  (tSeq (tIfS (tTest (tOp rEq (aMod (tVar 0) (tC (.int 4))) (tC (.int 1)))) (tRet (tOp (rIxL d.K) (tLst (tCons (tC (.str "on")) (tCons (tC (.str "else")) (tCons (tC (.str "a")) (tCons (tC (.str "wait")) (tCons (tC (.str "or")) (tCons (tC (.str "let")) (tCons (tC (.str "throw")) (tCons (tC (.str "if")) tNil))))))))) (aMod (aDiv (tVar 0) (tC (.int 4))) (tC (.int 8))))) tNext)
  (tSeq (tAsg (tC (.str "abcdefghijklmnopqrstuvwxyz")) (gName 1))
  (tSeq (tAsg (aAdd (tC (.int 1)) (aMod (aDiv (tVar 0) (tC (.int 4))) (tC (.int 8)))) (gName 2))
  (tSeq (tAsg (aMod (aDiv (tVar 0) (tC (.int 32))) (tVar 2)) (gName 3))
  (tSeq (tAsg (tC (.str "")) (gName 4))
  (tSeq (tFor (iRng1 (tCons (tVar 2) tNil)) (gName 5) (tSeq (tAsg (aAdd (aDiv (tVar 0) (tC (.int 256))) (aMul (tVar 5) (tVar 5))) (gName 6))
  (tSeq (tIfS (tTest (tOp rEq (tVar 5) (tVar 3))) (tAsg (aAdd (tVar 6) (aDiv (tVar 0) (tC (.int 6656)))) (gName 6)) tNext)
  (tAsg (aAddS (tVar 4) (tOp rIxS (tVar 1) (aMod (tVar 6) (tC (.int 26))))) (gName 4)))))
  (tRet (tVar 4))))))))
abbrev N_z_slot : List Str := ["_law_number_here"]
def t_z_slot (d : Ad) : TS :=
  (tRet (tOp rIxS (tC (.str "abcdefgh")) (aMod (tVar 0) (tC (.int 8)))))
abbrev N_z_number : List Str := ["_law_cell"]
def t_z_number (d : Ad) : TS :=
  (tSeq (tIfS (tTest (tOp rEq (aMod (tVar 0) (tC (.int 3))) (tC (.int 0)))) (tRet (aMod (aDiv (tVar 0) (tC (.int 3))) (tC (.int 12)))) tNext)
  (tSeq (tIfS (tTest (tOp rEq (aMod (tVar 0) (tC (.int 3))) (tC (.int 1)))) (tRet (aSub (aSub (aPow (tC (.int 2)) (tC (.int 64))) (tC (.int 1))) (aMod (aDiv (tVar 0) (tC (.int 3))) (tC (.int 5))))) tNext)
  (tRet (aMod (aDiv (tVar 0) (tC (.int 3))) (aPow (tC (.int 2)) (tC (.int 64)))))))
abbrev N_z_plain_pair : List Str := ["_law_way", "_law_cell", "_law_mixed", "_law_one", "_law_other", "_law_number_here", "_law_name_here", "_law_word", "_law_third"]
def t_z_plain_pair (d : Ad) : TS :=
  (tSeq (tAsg (aMod (aMul (tVar 1) (tC (.int 48271))) (tC (.int 2147483647))) (gName 2))
  (tSeq (tAsg (tCall (sp_z_slot d) [] E0 (tCons (tVar 2) tNil)) (gName 3))
  (tSeq (tAsg (tCall (sp_z_slot d) [] E0 (tCons (aDiv (tVar 2) (tC (.int 8))) tNil)) (gName 4))
  (tSeq (tAsg (tCall (sp_z_number d) [] E0 (tCons (tVar 1) tNil)) (gName 5))
  (tSeq (tAsg (tCall (sp_z_name d) [] E0 (tCons (tVar 1) tNil)) (gName 6))
  (tSeq (tIfS (tTest (tOp rEq (tVar 0) (tC (.int 0)))) (tRet (tTup (tCons (tMake d.cLet (sp_Let_init d) [] E0 (tCons (tVar 3) (tCons (tVar 5) tNil))) (tCons (aAddS (aAddS (aAddS (tC (.str "let ")) (tVar 3)) (tC (.str " "))) (tCB rStrI (tCons (tVar 5) tNil))) tNil)))) tNext)
  (tSeq (tIfS (tTest (tOp rEq (tVar 0) (tC (.int 1)))) (tSeq (tAsg (tOp (rIxL d.K) (tLst (tCons (tC (.str "plus")) (tCons (tC (.str "minus")) (tCons (tC (.str "times")) (tCons (tC (.str "less")) (tCons (tC (.str "same")) tNil)))))) (aMod (aDiv (tVar 2) (tC (.int 512))) (tC (.int 5)))) (gName 7))
  (tSeq (tAsg (tCall (sp_z_slot d) [] E0 (tCons (aDiv (tVar 2) (tC (.int 64))) tNil)) (gName 8))
  (tRet (tTup (tCons (tMake d.cReckon (sp_Reckon_init d) [] E0 (tCons (tVar 7) (tCons (tVar 3) (tCons (tVar 4) (tCons (tVar 8) tNil))))) (tCons (aAddS (aAddS (aAddS (aAddS (aAddS (aAddS (tVar 7) (tC (.str " "))) (tVar 3)) (tC (.str " "))) (tVar 4)) (tC (.str " "))) (tVar 8)) tNil)))))) tNext)
  (tSeq (tIfS (tTest (tOp rEq (tVar 0) (tC (.int 2)))) (tRet (tTup (tCons (tMake d.cTake (sp_Take_init d) [] E0 (tCons (tVar 3) (tCons (tVar 4) tNil))) (tCons (aAddS (aAddS (aAddS (tC (.str "take ")) (tVar 3)) (tC (.str " "))) (tVar 4)) tNil)))) tNext)
  (tSeq (tIfS (tTest (tOp rEq (tVar 0) (tC (.int 3)))) (tRet (tTup (tCons (tMake d.cPut (sp_Put_init d) [] E0 (tCons (tVar 3) (tCons (tVar 4) tNil))) (tCons (aAddS (aAddS (aAddS (tC (.str "put ")) (tVar 3)) (tC (.str " "))) (tVar 4)) tNil)))) tNext)
  (tSeq (tIfS (tTest (tOp rEq (tVar 0) (tC (.int 4)))) (tRet (tTup (tCons (tMake d.cThrow (sp_Throw_init d) [] E0 (tCons (tVar 6) (tCons (tVar 3) tNil))) (tCons (aAddS (aAddS (aAddS (tC (.str "throw ")) (tVar 6)) (tC (.str " "))) (tVar 3)) tNil)))) tNext)
  (tRet (tTup (tCons (tMakeO d.cWait) (tCons (tC (.str "wait")) tNil))))))))))))))
abbrev N_z_plain_right : List Str := ["_law_part", "_law_way", "_law_cell", "_law_mixed", "_law_one", "_law_other", "_law_third", "_law_word", "_law_due"]
def t_z_plain_right (d : Ad) : TS :=
  (tSeq (tAsg (aMod (aMul (tVar 2) (tC (.int 48271))) (tC (.int 2147483647))) (gName 3))
  (tSeq (tAsg (tCall (sp_z_slot d) [] E0 (tCons (tVar 3) tNil)) (gName 4))
  (tSeq (tAsg (tCall (sp_z_slot d) [] E0 (tCons (aDiv (tVar 3) (tC (.int 8))) tNil)) (gName 5))
  (tSeq (tIfS (tTest (tOp rEq (tVar 1) (tC (.int 0)))) (tRet (tAndV (tCB (rIsi d.K) (tCons (tVar 0) (tCons (tC (.ref d.cLet)) tNil))) (tAndV (tOp rEq (tFld d.K (tVar 0) "slot") (tVar 4)) (tOp rEq (tFld d.K (tVar 0) "number") (tCall (sp_z_number d) [] E0 (tCons (tVar 2) tNil)))))) tNext)
  (tSeq (tIfS (tTest (tOp rEq (tVar 1) (tC (.int 1)))) (tSeq (tAsg (tCall (sp_z_slot d) [] E0 (tCons (aDiv (tVar 3) (tC (.int 64))) tNil)) (gName 6))
  (tSeq (tAsg (tOp (rIxL d.K) (tLst (tCons (tC (.str "plus")) (tCons (tC (.str "minus")) (tCons (tC (.str "times")) (tCons (tC (.str "less")) (tCons (tC (.str "same")) tNil)))))) (aMod (aDiv (tVar 3) (tC (.int 512))) (tC (.int 5)))) (gName 7))
  (tSeq (tAsg (tLst (tCons (tVar 7) (tCons (tVar 4) (tCons (tVar 5) (tCons (tVar 6) tNil))))) (gName 8))
  (tRet (tAndV (tCB (rIsi d.K) (tCons (tVar 0) (tCons (tC (.ref d.cReckon)) tNil))) (tOp (rEqD d.K) (tLst (tCons (tFld d.K (tVar 0) "word") (tCons (tFld d.K (tVar 0) "slot") (tCons (tFld d.K (tVar 0) "one") (tCons (tFld d.K (tVar 0) "other") tNil))))) (tVar 8))))))) tNext)
  (tSeq (tIfS (tTest (tOp rEq (tVar 1) (tC (.int 2)))) (tRet (tAndV (tCB (rIsi d.K) (tCons (tVar 0) (tCons (tC (.ref d.cTake)) tNil))) (tOp (rEqD d.K) (tLst (tCons (tFld d.K (tVar 0) "slot") (tCons (tFld d.K (tVar 0) "place") tNil))) (tLst (tCons (tVar 4) (tCons (tVar 5) tNil)))))) tNext)
  (tSeq (tIfS (tTest (tOp rEq (tVar 1) (tC (.int 3)))) (tRet (tAndV (tCB (rIsi d.K) (tCons (tVar 0) (tCons (tC (.ref d.cPut)) tNil))) (tOp (rEqD d.K) (tLst (tCons (tFld d.K (tVar 0) "place") (tCons (tFld d.K (tVar 0) "slot") tNil))) (tLst (tCons (tVar 4) (tCons (tVar 5) tNil)))))) tNext)
  (tSeq (tIfS (tTest (tOp rEq (tVar 1) (tC (.int 4)))) (tRet (tAndV (tCB (rIsi d.K) (tCons (tVar 0) (tCons (tC (.ref d.cThrow)) tNil))) (tOp (rEqD d.K) (tLst (tCons (tFld d.K (tVar 0) "name") (tCons (tFld d.K (tVar 0) "slot") tNil))) (tLst (tCons (tCall (sp_z_name d) [] E0 (tCons (tVar 2) tNil)) (tCons (tVar 4) tNil)))))) tNext)
  (tRet (tCB (rIsi d.K) (tCons (tVar 0) (tCons (tC (.ref d.cWait)) tNil))))))))))))
local macro_rules | `(tactic| walk_at "callm") => `(tactic| first | ((with_reducible refine' d_addSh ?h ?h2 ?h3 ?_); (case h => walk_at "sh"); (case h2 => walk_at "sh"); (case h3 => decide)))
section
variable {d : Ad} {vs : List V} {H : Hp} {Q : VK} {E : XK}
theorem pure_z_whole (h : sp_z_whole d vs H Q E) : t_z_whole d { nx := fun _ H' => Q .non H', rt := Q } (start N_z_whole vs) H := by
  refine lift_pure h fun ds W Q hp => ?_
  obtain ⟨n, rfl, k⟩ := hp
  show WS d.K (t_z_whole d) [some (.raw (.int n))] W _
  unfold t_z_whole
  walk_at "mgo"
  exact ret_dat (Sub.refl _) k
theorem pure_z_slot (h : sp_z_slot d vs H Q E) : t_z_slot d { nx := fun _ H' => Q .non H', rt := Q } (start N_z_slot vs) H := by
  refine lift_pure h fun ds W Q hp => ?_
  obtain ⟨m, rfl, k⟩ := hp
  show WS d.K (t_z_slot d) [some (.raw (.int m))] W _
  unfold t_z_slot
  walk_at "mgo"
  refine d_ixAH (by omega) (by omega) ?_
  exact ret_dat (Sub.refl _) k
theorem pure_z_number (h : sp_z_number d vs H Q E) : t_z_number d { nx := fun _ H' => Q .non H', rt := Q } (start N_z_number vs) H := by
  refine lift_pure h fun ds W Q hp => ?_
  obtain ⟨c, rfl, k⟩ := hp
  show WS d.K (t_z_number d) [some (.raw (.int c))] W _
  unfold t_z_number
  unfold nmF at k
  walk_at "mgo"
  by_cases z : c % 3 = 0
  · refine w_tt (dB_t z) ?_
    rw [if_pos z] at k
    walk_at "mgo"
    exact ret_dat (Sub.refl _) k
  · refine w_ff (dB_f z) ?_
    rw [if_neg z] at k
    walk_at "mgo"
    by_cases z2 : c % 3 = 1
    · refine w_tt (dB_t z2) ?_
      rw [if_pos z2] at k
      walk_at "mgo"
      exact ret_dat (Sub.refl _) k
    · refine w_ff (dB_f z2) ?_
      rw [if_neg z2] at k
      walk_at "mgo"
      exact ret_dat (Sub.refl _) k
theorem pure_z_name (h : sp_z_name d vs H Q E) : t_z_name d { nx := fun _ H' => Q .non H', rt := Q } (start N_z_name vs) H := by
  refine lift_pure h fun ds W Q hp => ?_
  obtain ⟨c, rfl, k⟩ := hp
  show WS d.K (t_z_name d) [some (.raw (.int c)), none, none, none, none, none, none] W _
  unfold t_z_name
  unfold naF at k
  walk_at "mgo"
  by_cases z : c % 4 = 1
  · refine w_tt (dB_t z) ?_
    rw [if_pos z] at k
    walk_at "mgo"
    walk_at "dat"
    have lt : (c / 4 % 8).toNat < naM.length := by show _ < 8; omega
    have e : atI (naM.map D.str) (c / 4 % 8) = some (.str (naM.getD (c / 4 % 8).toNat "")) := by
      obtain ⟨j, hj, h8⟩ : ∃ j : Nat, c / 4 % 8 = ((j : Nat) : Int) ∧ j < 8 := ⟨(c / 4 % 8).toNat, by omega, by omega⟩
      rw [hj, Int.toNat_natCast]
      refine atI_nat ?_
      rw [List.getElem?_map, List.getD_eq_getElem?_getD, List.getElem?_eq_getElem (show j < naM.length from h8)]; rfl
    refine d_ixL (SeqD.lst _) e ?_
    exact ret_dat (Sub.refl _) k
  · refine w_ff (dB_f z) ?_
    rw [if_neg z] at k
    walk_at "mgo"
    obtain ⟨sz, hsz, h1, h8⟩ : ∃ sz : Nat, 1 + c / 4 % 8 = (sz : Int) ∧ 1 ≤ sz ∧ sz ≤ 8 := ⟨(1 + c / 4 % 8).toNat, by omega, by omega, by omega⟩
    rw [hsz] at k ⊢
    have pm : 0 < (sz : Int) := by omega
    have hcd : CDiv (c / 32) (sz : Int) := ⟨pm, by omega⟩
    walk_at "mgo"
    generalize c / 32 % (sz : Int) = at' at k ⊢
    rw [Int.toNat_natCast] at k
    refine ⟨fun j e W' => W' = W ∧ e = [some (.raw (.int c)), some (.raw (.str "abcdefghijklmnopqrstuvwxyz")), some (.raw (.int sz)), some (.raw (.int at')), some (.raw (.str (naR c at' j))), none, none], nx_id ⟨rfl, rfl⟩, fun _ _ _ _ _ => trivial, ?_, ?_⟩
    · rintro j u e' W' hj hu ⟨rfl, rfl⟩
      cases hu
      have hj : j < sz := by simpa [itR] using hj
      have hsl := (naR_ok c at' j).2
      rw [show (0 + (j : Nat) * 1 : Int) = (j : Nat) from by rw [Int.mul_one, Int.zero_add]]
      walk_at "mgo"
      have es : naR c at' (j + 1) = naR c at' j ++ lt1 (97 + (naS c at' j % 26).toNat) := rfl
      unfold naS at es
      by_cases y : ((j : Nat) : Int) = at'
      · refine w_tt (dB_t y) ?_
        rw [if_pos y] at es
        walk_at "mgo"
        refine d_ixAZ (by omega) (by omega) ?_
        refine d_addS (by rw [lt1_len, sizeLine_eq]; omega) ?_
        rw [← es]
        walk_at "mgo"
        exact nx_le (by walk_at "le") ⟨rfl, rfl⟩
      · refine w_ff (dB_f y) ?_
        rw [if_neg y] at es
        walk_at "mgo"
        refine d_ixAZ (by omega) (by omega) ?_
        refine d_addS (by rw [lt1_len, sizeLine_eq]; omega) ?_
        rw [← es]
        walk_at "mgo"
        exact nx_le (by walk_at "le") ⟨rfl, rfl⟩
    · rintro e' W' ⟨rfl, rfl⟩
      rw [show (itR 0 1 ((sz : Nat) : Int).toNat).n = sz by show ((sz : Nat) : Int).toNat = _; omega]
      walk_at "mgo"
      exact ret_dat (Sub.refl _) k
theorem pfT {s o : Str} : "take " ++ s ++ " " ++ o = wrP (.take s o) := by
  rw [show ("take " : Str) = txs ["take"] by decide +kernel, tx_word s (by simp), tx_blank, tx_word o (by simp)]; rfl
theorem pfP {s o : Str} : "put " ++ s ++ " " ++ o = wrP (.put s o) := by
  rw [show ("put " : Str) = txs ["put"] by decide +kernel, tx_word s (by simp), tx_blank, tx_word o (by simp)]; rfl
theorem pfH {s o : Str} : "throw " ++ s ++ " " ++ o = wrP (.throw s o) := by
  rw [show ("throw " : Str) = txs ["throw"] by decide +kernel, tx_word s (by simp), tx_blank, tx_word o (by simp)]; rfl
theorem d_ixWd {K : PySem.W.Frag} {W : Wd} {Q : KD} {m : Int} (q : Q (.raw (.str (wdF m))) W) : RD K (rIxL K) (.lst [.raw (.str "plus"), .raw (.str "minus"), .raw (.str "times"), .raw (.str "less"), .raw (.str "same")]) (.raw (.int (m / 512 % 5))) W Q := by
  obtain ⟨j, hj, h5⟩ : ∃ j : Nat, m / 512 % 5 = ((j : Nat) : Int) ∧ j < 5 := ⟨(m / 512 % 5).toNat, by omega, by omega⟩
  have e : atI (five.map D.str) (m / 512 % 5) = some (.str (wdF m)) := by
    unfold wdF
    rw [hj, Int.toNat_natCast]
    refine atI_nat ?_
    rw [List.getElem?_map, List.getD_eq_getElem?_getD, List.getElem?_eq_getElem (show j < five.length from h5)]; rfl
  exact d_ixL (SeqD.lst _) e q
theorem pure_z_plain_pair (h : sp_z_plain_pair d vs H Q E) : t_z_plain_pair d { nx := fun _ H' => Q .non H', rt := Q } (start N_z_plain_pair vs) H := by
  refine lift_vs h fun ds W Q hp => ?_
  obtain ⟨w, c, rfl, k⟩ := hp
  show WS d.K (t_z_plain_pair d) [some (.raw (.int w)), some (.raw (.int c)), none, none, none, none, none, none, none] W _
  unfold t_z_plain_pair
  unfold plF at k
  walk_at "mgo"
  generalize c * 48271 % 2147483647 = mx at k ⊢
  refine ⟨_, rfl, ?_⟩
  walk_at "mgo"
  refine ⟨_, rfl, ?_⟩
  walk_at "mgo"
  refine ⟨_, rfl, ?_⟩
  walk_at "mgo"
  refine ⟨_, rfl, ?_⟩
  have sh1 : ∀ m, Short 1 (slF m) := fun m => by have := sl_len (slF_ok m); unfold Short; omega
  have a1 := sh1 mx
  have a2 := sh1 (mx / 8)
  have a3 := sh1 (mx / 64)
  have nn := nmF_ok c
  have a4 := sh_num nn.1 nn.2
  have a5 : Short 1 (naF c) := by have := (naF_ok c).l8; unfold Short; omega
  have a6 : Short 1 (wdF mx) := by have := five_len (wdF_ok mx); unfold Short; omega
  have ln : (nmF c).natAbs.log2 < 1920 := log_small nn.1 (by omega)
  walk_at "mgo"
  by_cases z0 : w = 0
  · refine w_tt (dB_t z0) ?_
    rw [if_pos z0] at k
    walk_at "mgo"
    refine mk_Let ?_
    walk_at "mgo"
    refine ex_si ?_
    walk_at "mgo"
    refine d_strI ln ?_
    walk_at "mgo"
    rw [pf0, wr_one]
    exact fz_id (sub_q (Sub.refl _) k)
  refine w_ff (dB_f z0) ?_
  rw [if_neg z0] at k
  walk_at "mgo"
  by_cases z1 : w = 1
  · refine w_tt (dB_t z1) ?_
    rw [if_pos z1] at k
    walk_at "mgo"
    intro p hp
    refine fz_new hp ?_
    clear hp p
    walk_at "mgo"
    refine d_ixWd ?_
    walk_at "mgo"
    refine ⟨_, rfl, ?_⟩
    walk_at "mgo"
    refine mk_Reckon ?_
    walk_at "mgo"
    refine ex_ssss ?_
    walk_at "mgo"
    rw [pf1, wr_one]
    exact fz_id (sub_q (Sub.refl _) k)
  refine w_ff (dB_f z1) ?_
  rw [if_neg z1] at k
  walk_at "mgo"
  by_cases z2 : w = 2
  · refine w_tt (dB_t z2) ?_
    rw [if_pos z2] at k
    walk_at "mgo"
    refine mk_Take ?_
    walk_at "mgo"
    refine ex_ss ?_
    walk_at "mgo"
    rw [pfT]
    exact fz_id (sub_q (Sub.refl _) k)
  refine w_ff (dB_f z2) ?_
  rw [if_neg z2] at k
  walk_at "mgo"
  by_cases z3 : w = 3
  · refine w_tt (dB_t z3) ?_
    rw [if_pos z3] at k
    walk_at "mgo"
    refine mk_Put ?_
    walk_at "mgo"
    refine ex_ss ?_
    walk_at "mgo"
    rw [pfP]
    exact fz_id (sub_q (Sub.refl _) k)
  refine w_ff (dB_f z3) ?_
  rw [if_neg z3] at k
  walk_at "mgo"
  by_cases z4 : w = 4
  · refine w_tt (dB_t z4) ?_
    rw [if_pos z4] at k
    walk_at "mgo"
    refine mk_Throw ?_
    walk_at "mgo"
    refine ex_ss ?_
    walk_at "mgo"
    rw [pfH]
    exact fz_id (sub_q (Sub.refl _) k)
  refine w_ff (dB_f z4) ?_
  rw [if_neg z4] at k
  walk_at "mgo"
  refine mk_Wait ?_
  walk_at "mgo"
  exact fz_id (sub_q (Sub.refl _) k)
theorem pure_z_plain_right (T : TParts d) (TW : TWait d) (h : sp_z_plain_right d vs H Q E) : t_z_plain_right d { nx := fun _ H' => Q .non H', rt := Q } (start N_z_plain_right vs) H := by
  refine lift_vs h fun ds W Q hp => ?_
  obtain ⟨w, c, rfl, k⟩ := hp
  show WS d.K (t_z_plain_right d) [some (pD d (plF w c)), some (.raw (.int w)), some (.raw (.int c)), none, none, none, none, none, none] W _
  unfold t_z_plain_right
  unfold plF
  generalize hmx : c * 48271 % 2147483647 = mx
  have sl := fun m => sok_sl (slF_ok m)
  walk_at "mgo"
  rw [hmx]
  refine ⟨_, rfl, ?_⟩
  walk_at "mgo"
  refine ⟨_, rfl, ?_⟩
  walk_at "mgo"
  by_cases z0 : w = 0
  · refine w_tt (dB_t z0) ?_
    rw [if_pos z0]
    have cc : Cls d.K d.cLet := T.cl .let_
    have m0 : NoAttr d.K d.cLet "slot" := T.na .let_ "slot" (by decide)
    have m1 : NoAttr d.K d.cLet "number" := T.na .let_ "number" (by decide)
    walk_at "mgo"
    refine d_isiK T (j := .let_) (by decide) rfl ⟨true, rfl, ?_⟩
    rw [if_pos rfl, pD]
    walk_at "mgo"
    refine w_tt (dB_t rfl) ?_
    walk_at "mgo"
    refine ⟨_, rfl, ?_⟩
    walk_at "mgo"
    rw [dB_t rfl]
    exact fz_id (sub_q (Sub.refl _) k)
  refine w_ff (dB_f z0) ?_
  rw [if_neg z0]
  walk_at "mgo"
  by_cases z1 : w = 1
  · refine w_tt (dB_t z1) ?_
    rw [if_pos z1]
    have cc : Cls d.K d.cReckon := T.cl .rk
    have m0 : NoAttr d.K d.cReckon "word" := T.na .rk "word" (by decide)
    have m1 : NoAttr d.K d.cReckon "slot" := T.na .rk "slot" (by decide)
    have m2 : NoAttr d.K d.cReckon "one" := T.na .rk "one" (by decide)
    have m3 : NoAttr d.K d.cReckon "other" := T.na .rk "other" (by decide)
    walk_at "mgo"
    refine ⟨_, rfl, ?_⟩
    walk_at "mgo"
    intro p hp
    refine fz_new hp ?_
    clear hp p
    walk_at "mgo"
    refine d_ixWd ?_
    walk_at "mgo"
    intro p hp
    refine fz_new hp ?_
    clear hp p
    walk_at "mgo"
    refine d_isiK T (j := .rk) (by decide) rfl ⟨true, rfl, ?_⟩
    rw [if_pos rfl, pD]
    walk_at "mgo"
    repeat (intro q1 hq1; refine fz_new hq1 ?_; clear hq1 q1; walk_at "mgo")
    refine d_eqSelf (n := 1) (Lay.lst (n := 0) (.cons (.str (sok_five (wdF_ok _))) (.cons (.str (sl _)) (.cons (.str (sl _)) (.cons (.str (sl _)) .nil)))) (by decide)) (by decide) ?_
    exact fz_id (sub_q (Sub.refl _) k)
  refine w_ff (dB_f z1) ?_
  rw [if_neg z1]
  walk_at "mgo"
  by_cases z2 : w = 2
  · refine w_tt (dB_t z2) ?_
    rw [if_pos z2]
    have cc : Cls d.K d.cTake := T.cl .take
    have m0 : NoAttr d.K d.cTake "slot" := T.na .take "slot" (by decide)
    have m1 : NoAttr d.K d.cTake "place" := T.na .take "place" (by decide)
    walk_at "mgo"
    refine d_isiK T (j := .take) (by decide) rfl ⟨true, rfl, ?_⟩
    rw [if_pos rfl, pD]
    walk_at "mgo"
    repeat (intro q1 hq1; refine fz_new hq1 ?_; clear hq1 q1; walk_at "mgo")
    refine d_eqSelf (n := 1) (Lay.lst (n := 0) (.cons (.str (sl _)) (.cons (.str (sl _)) .nil)) (by decide)) (by decide) ?_
    exact fz_id (sub_q (Sub.refl _) k)
  refine w_ff (dB_f z2) ?_
  rw [if_neg z2]
  walk_at "mgo"
  by_cases z3 : w = 3
  · refine w_tt (dB_t z3) ?_
    rw [if_pos z3]
    have cc : Cls d.K d.cPut := T.cl .put
    have m0 : NoAttr d.K d.cPut "place" := T.na .put "place" (by decide)
    have m1 : NoAttr d.K d.cPut "slot" := T.na .put "slot" (by decide)
    walk_at "mgo"
    refine d_isiK T (j := .put) (by decide) rfl ⟨true, rfl, ?_⟩
    rw [if_pos rfl, pD]
    walk_at "mgo"
    repeat (intro q1 hq1; refine fz_new hq1 ?_; clear hq1 q1; walk_at "mgo")
    refine d_eqSelf (n := 1) (Lay.lst (n := 0) (.cons (.str (sl _)) (.cons (.str (sl _)) .nil)) (by decide)) (by decide) ?_
    exact fz_id (sub_q (Sub.refl _) k)
  refine w_ff (dB_f z3) ?_
  rw [if_neg z3]
  walk_at "mgo"
  by_cases z4 : w = 4
  · refine w_tt (dB_t z4) ?_
    rw [if_pos z4]
    have cc : Cls d.K d.cThrow := T.cl .throw
    have m0 : NoAttr d.K d.cThrow "name" := T.na .throw "name" (by decide)
    have m1 : NoAttr d.K d.cThrow "slot" := T.na .throw "slot" (by decide)
    walk_at "mgo"
    refine d_isiK T (j := .throw) (by decide) rfl ⟨true, rfl, ?_⟩
    rw [if_pos rfl, pD]
    walk_at "mgo"
    repeat (intro q1 hq1; refine fz_new hq1 ?_; clear hq1 q1; walk_at "mgo")
    refine ⟨_, rfl, ?_⟩
    walk_at "mgo"
    repeat (intro q1 hq1; refine fz_new hq1 ?_; clear hq1 q1; walk_at "mgo")
    refine d_eqSelf (n := 1) (Lay.lst (n := 0) (.cons (.str (sok_name (naF_ok _))) (.cons (.str (sl _)) .nil)) (by decide)) (by decide) ?_
    exact fz_id (sub_q (Sub.refl _) k)
  refine w_ff (dB_f z4) ?_
  rw [if_neg z4]
  walk_at "mgo"
  rw [pD]
  refine m_isi_wait T TW .wait rfl rfl ?_
  exact fz_id (sub_q (Sub.refl _) k)
end
end
set_option Elab.async false
set_option linter.all false
set_option maxRecDepth 100000
set_option maxHeartbeats 1000000
set_option autoImplicit false
section
open PySem L2
local macro_rules | `(tactic| walk_at "set") => `(tactic| ((try simp only [List.set_cons_succ, List.set_cons_zero]); rfl))
local macro_rules | `(tactic| walk_at "sc") => `(tactic| first | assumption | decide | omega | (unfold CMul; omega) | (unfold CDiv; omega) | (unfold CPow; decide) | (unfold CDiv; decide))
local macro_rules | `(tactic| walk_at "go") => `(tactic| (repeat (first | walk_at "step" | walk_at "callx")))
local macro_rules | `(tactic| walk_at "goN") => `(tactic| (repeat (first | walk_at "step" | walk_at "callx" | ((with_reducible show ∀ p, _ = none → _); walk_at "new"))))
local macro_rules | `(tactic| walk_at "len") => `(tactic| first
  | (obtain ⟨rfl, _⟩ := h; rfl) | (obtain ⟨_, rfl, _⟩ := h; rfl) | (obtain ⟨_, _, rfl, _⟩ := h; rfl) | (obtain ⟨_, _, _, rfl, _⟩ := h; rfl) | (obtain ⟨_, _, _, _, rfl, _⟩ := h; rfl)
  | (obtain ⟨_, _, _, _, _, rfl, _⟩ := h; rfl) | (obtain ⟨_, _, _, _, _, _, rfl, _⟩ := h; rfl) | (obtain ⟨_, _, _, _, _, _, _, rfl, _⟩ := h; rfl) | (obtain ⟨_, _, _, _, _, _, _, _, rfl, _⟩ := h; rfl)
  | (obtain ⟨_, _, _, _, _, _, _, _, _, rfl, _⟩ := h; rfl) | (obtain ⟨_, _, _, _, _, _, _, _, _, _, rfl, _⟩ := h; rfl))
local macro_rules | `(tactic| walk_at "dd") => `(tactic| first | with_reducible assumption | ((with_reducible refine' DctD.own ?h); (case h => walk_at "wk")) | ((with_reducible refine' DctD.lock ?h); (case h => walk_at "wk")))
local macro_rules | `(tactic| walk_at "mat") => `(tactic| first | ((with_reducible refine' MAt.ins ?h ?l); (case h => walk_at "wk"); (case l => rfl)) | ((with_reducible refine' log_mat ?h ?l ?l2); (case h => walk_at "wk"); (case l => decide +kernel); (case l2 => decide +kernel)))
local macro_rules | `(tactic| walk_at "isim") => `(tactic| first | ((with_reducible refine' m_isi_let_ ?t ?k ?h ?e ?_); (case t => assumption); (case e => assumption); (case h => rfl)) | ((with_reducible refine' m_isi_rk ?t ?k ?h ?e ?_); (case t => assumption); (case e => assumption); (case h => rfl)) | ((with_reducible refine' m_isi_take ?t ?k ?h ?e ?_); (case t => assumption); (case e => assumption); (case h => rfl)) | ((with_reducible refine' m_isi_put ?t ?k ?h ?e ?_); (case t => assumption); (case e => assumption); (case h => rfl)) | ((with_reducible refine' m_isi_throw ?t ?k ?h ?e ?_); (case t => assumption); (case e => assumption); (case h => rfl)) | ((with_reducible refine' m_isi_iff ?t ?k ?h ?e ?_); (case t => assumption); (case e => assumption); (case h => rfl)) | ((with_reducible refine' m_isi_eith ?t ?k ?h ?e ?_); (case t => assumption); (case e => assumption); (case h => rfl)) | ((with_reducible refine' m_isi_tryy ?t ?k ?h ?e ?_); (case t => assumption); (case e => assumption); (case h => rfl)))
structure TPartO (d : Ad) : Prop where
  cl : Cls d.K d.cPart
  cc : PySem.W.findIn d.K (.ref d.cPart) "__class__" = some (some (.builtin "object.__class__"))
  mo : PySem.W.mroIn d.K d.cPart (.type "object") = some true
  gs : PySem.W.specialIn d.K (.builtin "object.__class__") "__get__" = some (some (.builtin "getset_descriptor.__get__"))
  tk : PySem.W.takesIn d.K (.builtin "object.__class__") = some true
  kit : PySem.W.kitOne d.K (.ref d.cPart) (.ref d.cPart) = some true
abbrev partD (d : Ad) : D := .obj d.cPart [] []
def p_Part_shown (d : Ad) : PF := fun ds W Q => ds = [partD d] ∧ Q (.str "") W
def p_Part_long (d : Ad) : PF := fun ds W Q => ds = [partD d] ∧ Q (.int 0) W
def p_z_shows (d : Ad) : PF := fun ds W Q => ∃ (x : D) (s : Str) (n : Int), ds = [x, .str s, .int n] ∧ ((∃ p, x = pD d p ∧ s = wrP p ∧ n = ((lenP p : Nat) : Int) ∧ okP p ∧ lenP p ≤ 1000 ∧ ndP p ≤ 40) ∨ (x = partD d ∧ s = "" ∧ n = 0)) ∧ Q (.bl true) W
abbrev sp_Part_shown (d : Ad) : Sp := lift d.K (p_Part_shown d)
abbrev sp_Part_long (d : Ad) : Sp := lift d.K (p_Part_long d)
abbrev sp_z_shows (d : Ad) : Sp := lift d.K (p_z_shows d)
abbrev N_Part_shown : List Str := ["self"]
def t_Part_shown (d : Ad) : TS :=
  (tRet (tC (.str "")))
abbrev N_Part_long : List Str := ["self"]
def t_Part_long (d : Ad) : TS :=
  (tRet (tC (.int 0)))
abbrev N_z_shows : List Str := ["_law_part", "_law_text", "_law_many", "_law_found", "_law_long"]
def t_z_shows (d : Ad) : TS :=
  (tSeq (tAsg (tAlt (tMeth d.cLet "shown" (sp_Let_shown d) [] E0 (tVar 0) tNil) (tAlt (tMeth d.cReckon "shown" (sp_Reckon_shown d) [] E0 (tVar 0) tNil) (tAlt (tMeth d.cTake "shown" (sp_Take_shown d) [] E0 (tVar 0) tNil) (tAlt (tMeth d.cPut "shown" (sp_Put_shown d) [] E0 (tVar 0) tNil) (tAlt (tMeth d.cIf "shown" (sp_If_shown d) [] E0 (tVar 0) tNil) (tAlt (tMeth d.cEither "shown" (sp_Either_shown d) [] E0 (tVar 0) tNil) (tAlt (tMeth d.cTry "shown" (sp_Try_shown d) [] E0 (tVar 0) tNil) (tAlt (tMeth d.cThrow "shown" (sp_Throw_shown d) [] E0 (tVar 0) tNil) (tAlt (tMeth d.cWait "shown" (sp_Wait_shown d) [] E0 (tVar 0) tNil) (tMeth d.cPart "shown" (sp_Part_shown d) [] E0 (tVar 0) tNil)))))))))) (gName 3))
  (tSeq (tAsg (tAlt (tMeth d.cLet "long" (sp_Let_long d) [] E0 (tVar 0) tNil) (tAlt (tMeth d.cReckon "long" (sp_Reckon_long d) [] E0 (tVar 0) tNil) (tAlt (tMeth d.cTake "long" (sp_Take_long d) [] E0 (tVar 0) tNil) (tAlt (tMeth d.cPut "long" (sp_Put_long d) [] E0 (tVar 0) tNil) (tAlt (tMeth d.cIf "long" (sp_If_long d) [] E0 (tVar 0) tNil) (tAlt (tMeth d.cEither "long" (sp_Either_long d) [] E0 (tVar 0) tNil) (tAlt (tMeth d.cTry "long" (sp_Try_long d) [] E0 (tVar 0) tNil) (tAlt (tMeth d.cThrow "long" (sp_Throw_long d) [] E0 (tVar 0) tNil) (tAlt (tMeth d.cWait "long" (sp_Wait_long d) [] E0 (tVar 0) tNil) (tMeth d.cPart "long" (sp_Part_long d) [] E0 (tVar 0) tNil)))))))))) (gName 4))
  (tRet (tAndV (tCB (rIsi d.K) (tCons (tVar 0) (tCons (tC (.ref d.cPart)) tNil))) (tAndV (tCB (rIsi d.K) (tCons (tVar 3) (tCons (tC (.ty "str")) tNil))) (tAndV (tOp rEq (tVar 3) (tVar 1)) (tAndV (tCall (sp_z_whole d) [] E0 (tCons (tVar 4) tNil)) (tOp rEq (tVar 4) (tVar 2)))))))))
local macro_rules | `(tactic| walk_at "callm") => `(tactic| fail)
section
variable {d : Ad} {vs : List V} {H : Hp} {Q : VK} {E : XK}
theorem pure_Part_shown (h : sp_Part_shown d vs H Q E) : t_Part_shown d { nx := fun _ H' => Q .non H', rt := Q } (start N_Part_shown vs) H := by
  refine lift_vs h fun ds W Q hp => ?_
  obtain ⟨rfl, k⟩ := hp
  show WS d.K (t_Part_shown d) [some (partD d)] W _
  exact ws_ret <| we_c <| fz_id (sub_q (Sub.refl _) k)
theorem pure_Part_long (h : sp_Part_long d vs H Q E) : t_Part_long d { nx := fun _ H' => Q .non H', rt := Q } (start N_Part_long vs) H := by
  refine lift_vs h fun ds W Q hp => ?_
  obtain ⟨rfl, k⟩ := hp
  show WS d.K (t_Part_long d) [some (partD d)] W _
  exact ws_ret <| we_c <| fz_id (sub_q (Sub.refl _) k)
theorem d_isiPO {W : Wd} {Q : KD} (T : TPartO d) (q : Q (.raw (.bl true)) W) : RC d.K (rIsi d.K) [partD d, .raw (.ref d.cPart)] W Q := fun B H vs kk s r hk => by
  cases r with
  | cons r1 r2 =>
    cases r2 with
    | cons r2 r3 =>
      cases r2; cases r3
      cases r1 with
      | obj g hl hs => exact w_isi (.own _) (.base (.ins (s.ex _ _ g) T.cl T.cc T.gs T.tk T.mo)) T.kit (hk _ B H _ W (Evl.Ex.refl _) s (.raw _) q)
section
variable {e : Env} {W : Wd} {Q : KD} {p : Pt}
theorem we_shown10 (ok : okP p) (l : lenP p ≤ 1000) (nd : ndP p ≤ 40) (hv : e[0]? = some (some (pD d p))) (q : Q (.raw (.str (wrP p))) W) : WE d.K (tAlt (tMeth d.cLet "shown" (sp_Let_shown d) [] E0 (tVar 0) tNil) (tAlt (tMeth d.cReckon "shown" (sp_Reckon_shown d) [] E0 (tVar 0) tNil) (tAlt (tMeth d.cTake "shown" (sp_Take_shown d) [] E0 (tVar 0) tNil) (tAlt (tMeth d.cPut "shown" (sp_Put_shown d) [] E0 (tVar 0) tNil) (tAlt (tMeth d.cIf "shown" (sp_If_shown d) [] E0 (tVar 0) tNil) (tAlt (tMeth d.cEither "shown" (sp_Either_shown d) [] E0 (tVar 0) tNil) (tAlt (tMeth d.cTry "shown" (sp_Try_shown d) [] E0 (tVar 0) tNil) (tAlt (tMeth d.cThrow "shown" (sp_Throw_shown d) [] E0 (tVar 0) tNil) (tAlt (tMeth d.cWait "shown" (sp_Wait_shown d) [] E0 (tVar 0) tNil) (tMeth d.cPart "shown" (sp_Part_shown d) [] E0 (tVar 0) tNil)))))))))) e W Q := by
  cases p with
  | let_ s v => exact we_altL <| we_methO <| we_var hv ⟨_, _, pD_let_, by decide +kernel, wa_nil ⟨_, rfl, rfl, ok, q⟩⟩
  | rk w s o t => exact we_altR <| we_altL <| we_methO <| we_var hv ⟨_, _, pD_rk, by decide +kernel, wa_nil ⟨_, rfl, rfl, ok, q⟩⟩
  | take s q' => exact we_altR <| we_altR <| we_altL <| we_methO <| we_var hv ⟨_, _, pD_take, by decide +kernel, wa_nil ⟨_, rfl, rfl, ok, q⟩⟩
  | put q' s => exact we_altR <| we_altR <| we_altR <| we_altL <| we_methO <| we_var hv ⟨_, _, pD_put, by decide +kernel, wa_nil ⟨_, rfl, rfl, ok, q⟩⟩
  | iff s qs os => exact we_altR <| we_altR <| we_altR <| we_altR <| we_altL <| we_methO <| we_var hv ⟨_, _, pD_iff, by decide +kernel, wa_nil ⟨s, qs, os, rfl, ok, by omega, by omega, q⟩⟩
  | eith qs os => exact we_altR <| we_altR <| we_altR <| we_altR <| we_altR <| we_altL <| we_methO <| we_var hv ⟨_, _, pD_eith, by decide +kernel, wa_nil ⟨qs, os, rfl, ok, by omega, by omega, q⟩⟩
  | tryy qs n s os => exact we_altR <| we_altR <| we_altR <| we_altR <| we_altR <| we_altR <| we_altL <| we_methO <| we_var hv ⟨_, _, pD_tryy, by decide +kernel, wa_nil ⟨qs, n, s, os, rfl, ok, by omega, by omega, q⟩⟩
  | throw n s => exact we_altR <| we_altR <| we_altR <| we_altR <| we_altR <| we_altR <| we_altR <| we_altL <| we_methO <| we_var hv ⟨_, _, pD_throw, by decide +kernel, wa_nil ⟨_, rfl, rfl, ok, q⟩⟩
  | wait => exact we_altR <| we_altR <| we_altR <| we_altR <| we_altR <| we_altR <| we_altR <| we_altR <| we_altL <| we_methO <| we_var hv ⟨_, _, pD_wait, by decide +kernel, wa_nil ⟨_, rfl, rfl, ok, q⟩⟩
theorem we_long10 (l : lenP p ≤ 1000) (nd : ndP p ≤ 40) (hv : e[0]? = some (some (pD d p))) (q : Q (.raw (.int ((lenP p : Nat) : Int))) W) : WE d.K (tAlt (tMeth d.cLet "long" (sp_Let_long d) [] E0 (tVar 0) tNil) (tAlt (tMeth d.cReckon "long" (sp_Reckon_long d) [] E0 (tVar 0) tNil) (tAlt (tMeth d.cTake "long" (sp_Take_long d) [] E0 (tVar 0) tNil) (tAlt (tMeth d.cPut "long" (sp_Put_long d) [] E0 (tVar 0) tNil) (tAlt (tMeth d.cIf "long" (sp_If_long d) [] E0 (tVar 0) tNil) (tAlt (tMeth d.cEither "long" (sp_Either_long d) [] E0 (tVar 0) tNil) (tAlt (tMeth d.cTry "long" (sp_Try_long d) [] E0 (tVar 0) tNil) (tAlt (tMeth d.cThrow "long" (sp_Throw_long d) [] E0 (tVar 0) tNil) (tAlt (tMeth d.cWait "long" (sp_Wait_long d) [] E0 (tVar 0) tNil) (tMeth d.cPart "long" (sp_Part_long d) [] E0 (tVar 0) tNil)))))))))) e W Q := by
  cases p with
  | let_ s v => exact we_altL <| we_methO <| we_var hv ⟨_, _, pD_let_, by decide +kernel, wa_nil ⟨_, rfl, (cast (congrArg (fun z : Nat => Q (.raw (.int ((z : Nat) : Int))) W) (by simp [lenP] : lenP (.let_ s v) = 1)) q)⟩⟩
  | rk w s o t => exact we_altR <| we_altL <| we_methO <| we_var hv ⟨_, _, pD_rk, by decide +kernel, wa_nil ⟨_, rfl, (cast (congrArg (fun z : Nat => Q (.raw (.int ((z : Nat) : Int))) W) (by simp [lenP] : lenP (.rk w s o t) = 1)) q)⟩⟩
  | take s q' => exact we_altR <| we_altR <| we_altL <| we_methO <| we_var hv ⟨_, _, pD_take, by decide +kernel, wa_nil ⟨_, rfl, (cast (congrArg (fun z : Nat => Q (.raw (.int ((z : Nat) : Int))) W) (by simp [lenP] : lenP (.take s q') = 1)) q)⟩⟩
  | put q' s => exact we_altR <| we_altR <| we_altR <| we_altL <| we_methO <| we_var hv ⟨_, _, pD_put, by decide +kernel, wa_nil ⟨_, rfl, (cast (congrArg (fun z : Nat => Q (.raw (.int ((z : Nat) : Int))) W) (by simp [lenP] : lenP (.put q' s) = 1)) q)⟩⟩
  | iff s qs os => exact we_altR <| we_altR <| we_altR <| we_altR <| we_altL <| we_methO <| we_var hv ⟨_, _, pD_iff, by decide +kernel, wa_nil ⟨s, qs, os, rfl, by omega, by omega, q⟩⟩
  | eith qs os => exact we_altR <| we_altR <| we_altR <| we_altR <| we_altR <| we_altL <| we_methO <| we_var hv ⟨_, _, pD_eith, by decide +kernel, wa_nil ⟨qs, os, rfl, by omega, by omega, q⟩⟩
  | tryy qs n s os => exact we_altR <| we_altR <| we_altR <| we_altR <| we_altR <| we_altR <| we_altL <| we_methO <| we_var hv ⟨_, _, pD_tryy, by decide +kernel, wa_nil ⟨qs, n, s, os, rfl, by omega, by omega, q⟩⟩
  | throw n s => exact we_altR <| we_altR <| we_altR <| we_altR <| we_altR <| we_altR <| we_altR <| we_altL <| we_methO <| we_var hv ⟨_, _, pD_throw, by decide +kernel, wa_nil ⟨_, rfl, (cast (congrArg (fun z : Nat => Q (.raw (.int ((z : Nat) : Int))) W) (by simp [lenP] : lenP (.throw n s) = 1)) q)⟩⟩
  | wait => exact we_altR <| we_altR <| we_altR <| we_altR <| we_altR <| we_altR <| we_altR <| we_altR <| we_altL <| we_methO <| we_var hv ⟨_, _, pD_wait, by decide +kernel, wa_nil ⟨_, rfl, (cast (congrArg (fun z : Nat => Q (.raw (.int ((z : Nat) : Int))) W) (by simp [lenP] : lenP (.wait) = 1)) q)⟩⟩
theorem we_shownP (hv : e[0]? = some (some (partD d))) (q : Q (.raw (.str "")) W) : WE d.K (tAlt (tMeth d.cLet "shown" (sp_Let_shown d) [] E0 (tVar 0) tNil) (tAlt (tMeth d.cReckon "shown" (sp_Reckon_shown d) [] E0 (tVar 0) tNil) (tAlt (tMeth d.cTake "shown" (sp_Take_shown d) [] E0 (tVar 0) tNil) (tAlt (tMeth d.cPut "shown" (sp_Put_shown d) [] E0 (tVar 0) tNil) (tAlt (tMeth d.cIf "shown" (sp_If_shown d) [] E0 (tVar 0) tNil) (tAlt (tMeth d.cEither "shown" (sp_Either_shown d) [] E0 (tVar 0) tNil) (tAlt (tMeth d.cTry "shown" (sp_Try_shown d) [] E0 (tVar 0) tNil) (tAlt (tMeth d.cThrow "shown" (sp_Throw_shown d) [] E0 (tVar 0) tNil) (tAlt (tMeth d.cWait "shown" (sp_Wait_shown d) [] E0 (tVar 0) tNil) (tMeth d.cPart "shown" (sp_Part_shown d) [] E0 (tVar 0) tNil)))))))))) e W Q :=
  we_altR <| we_altR <| we_altR <| we_altR <| we_altR <| we_altR <| we_altR <| we_altR <| we_altR <| we_methO <| we_var hv ⟨_, _, rfl, by decide, wa_nil ⟨rfl, q⟩⟩
theorem we_longP (hv : e[0]? = some (some (partD d))) (q : Q (.raw (.int 0)) W) : WE d.K (tAlt (tMeth d.cLet "long" (sp_Let_long d) [] E0 (tVar 0) tNil) (tAlt (tMeth d.cReckon "long" (sp_Reckon_long d) [] E0 (tVar 0) tNil) (tAlt (tMeth d.cTake "long" (sp_Take_long d) [] E0 (tVar 0) tNil) (tAlt (tMeth d.cPut "long" (sp_Put_long d) [] E0 (tVar 0) tNil) (tAlt (tMeth d.cIf "long" (sp_If_long d) [] E0 (tVar 0) tNil) (tAlt (tMeth d.cEither "long" (sp_Either_long d) [] E0 (tVar 0) tNil) (tAlt (tMeth d.cTry "long" (sp_Try_long d) [] E0 (tVar 0) tNil) (tAlt (tMeth d.cThrow "long" (sp_Throw_long d) [] E0 (tVar 0) tNil) (tAlt (tMeth d.cWait "long" (sp_Wait_long d) [] E0 (tVar 0) tNil) (tMeth d.cPart "long" (sp_Part_long d) [] E0 (tVar 0) tNil)))))))))) e W Q :=
  we_altR <| we_altR <| we_altR <| we_altR <| we_altR <| we_altR <| we_altR <| we_altR <| we_altR <| we_methO <| we_var hv ⟨_, _, rfl, by decide, wa_nil ⟨rfl, q⟩⟩
end
theorem pure_z_shows (T : TParts d) (TP : TPart d) (TO : TPartO d) (h : sp_z_shows d vs H Q E) : t_z_shows d { nx := fun _ H' => Q .non H', rt := Q } (start N_z_shows vs) H := by
  refine lift_vs h fun ds W Q hp => ?_
  obtain ⟨x, s, n, rfl, hx, k⟩ := hp
  show WS d.K (t_z_shows d) [some x, some (.raw (.str s)), some (.raw (.int n)), none, none] W _
  unfold t_z_shows
  rcases hx with ⟨p, rfl, rfl, rfl, ok, l, nd⟩ | ⟨rfl, rfl, rfl⟩
  · refine ws_seq <| ws_asg <| we_shown10 ok l nd rfl <| wg_name (e' := [some (pD d p), some (.raw (.str (wrP p))), some (.raw (.int ((lenP p : Nat) : Int))), some (.raw (.str (wrP p))), none]) rfl ?_
    refine ws_seq <| ws_asg <| we_long10 l nd rfl <| wg_name (e' := [some (pD d p), some (.raw (.str (wrP p))), some (.raw (.int ((lenP p : Nat) : Int))), some (.raw (.str (wrP p))), some (.raw (.int ((lenP p : Nat) : Int)))]) rfl ?_
    refine ws_ret <| we_andV <| we_cb <| wa_cons <| we_var rfl <| wa_cons <| we_c <| wa_nil <| d_isiPt T TP ⟨true, rfl, ?_⟩
    rw [if_pos rfl]
    walk_at "mgo"
    refine w_tt (dB_t rfl) ?_
    walk_at "mgo"
    refine ⟨_, rfl, ?_⟩
    walk_at "mgo"
    rw [dB_t rfl]
    exact fz_id (sub_q (Sub.refl _) k)
  · refine ws_seq <| ws_asg <| we_shownP rfl <| wg_name (e' := [some (partD d), some (.raw (.str "")), some (.raw (.int 0)), some (.raw (.str "")), none]) rfl ?_
    refine ws_seq <| ws_asg <| we_longP rfl <| wg_name (e' := [some (partD d), some (.raw (.str "")), some (.raw (.int 0)), some (.raw (.str "")), some (.raw (.int 0))]) rfl ?_
    refine ws_ret <| we_andV <| we_cb <| wa_cons <| we_var rfl <| wa_cons <| we_c <| wa_nil <| d_isiPO TO ⟨true, rfl, ?_⟩
    rw [if_pos rfl]
    walk_at "mgo"
    refine ⟨_, rfl, ?_⟩
    walk_at "mgo"
    rw [dB_t rfl]
    exact fz_id (sub_q (Sub.refl _) k)
end
end
set_option Elab.async false
set_option linter.all false
set_option maxRecDepth 100000
set_option maxHeartbeats 2000000
set_option autoImplicit false
section
open PySem L2
local macro_rules | `(tactic| walk_at "set") => `(tactic| ((try simp only [List.set_cons_succ, List.set_cons_zero]); rfl))
local macro_rules | `(tactic| walk_at "sc") => `(tactic| first | assumption | decide | omega | (unfold CMul; omega) | (unfold CDiv; omega) | (unfold CPow; decide) | (unfold CDiv; decide))
local macro_rules | `(tactic| walk_at "go") => `(tactic| (repeat (first | walk_at "step" | walk_at "callx")))
local macro_rules | `(tactic| walk_at "goN") => `(tactic| (repeat (first | walk_at "step" | walk_at "callx" | ((with_reducible show ∀ p, _ = none → _); walk_at "new"))))
local macro_rules | `(tactic| walk_at "len") => `(tactic| first
  | (obtain ⟨rfl, _⟩ := h; rfl) | (obtain ⟨_, rfl, _⟩ := h; rfl) | (obtain ⟨_, _, rfl, _⟩ := h; rfl) | (obtain ⟨_, _, _, rfl, _⟩ := h; rfl) | (obtain ⟨_, _, _, _, rfl, _⟩ := h; rfl)
  | (obtain ⟨_, _, _, _, _, rfl, _⟩ := h; rfl) | (obtain ⟨_, _, _, _, _, _, rfl, _⟩ := h; rfl) | (obtain ⟨_, _, _, _, _, _, _, rfl, _⟩ := h; rfl) | (obtain ⟨_, _, _, _, _, _, _, _, rfl, _⟩ := h; rfl)
  | (obtain ⟨_, _, _, _, _, _, _, _, _, rfl, _⟩ := h; rfl) | (obtain ⟨_, _, _, _, _, _, _, _, _, _, rfl, _⟩ := h; rfl))
local macro_rules | `(tactic| walk_at "dd") => `(tactic| first | with_reducible assumption | ((with_reducible refine' DctD.own ?h); (case h => walk_at "wk")) | ((with_reducible refine' DctD.lock ?h); (case h => walk_at "wk")))
local macro_rules | `(tactic| walk_at "mat") => `(tactic| first | ((with_reducible refine' MAt.ins ?h ?l); (case h => walk_at "wk"); (case l => rfl)) | ((with_reducible refine' log_mat ?h ?l ?l2); (case h => walk_at "wk"); (case l => decide +kernel); (case l2 => decide +kernel)))
local macro_rules | `(tactic| walk_at "isim") => `(tactic| first | ((with_reducible refine' m_isi_let_ ?t ?k ?h ?e ?_); (case t => assumption); (case e => assumption); (case h => rfl)) | ((with_reducible refine' m_isi_rk ?t ?k ?h ?e ?_); (case t => assumption); (case e => assumption); (case h => rfl)) | ((with_reducible refine' m_isi_take ?t ?k ?h ?e ?_); (case t => assumption); (case e => assumption); (case h => rfl)) | ((with_reducible refine' m_isi_put ?t ?k ?h ?e ?_); (case t => assumption); (case e => assumption); (case h => rfl)) | ((with_reducible refine' m_isi_throw ?t ?k ?h ?e ?_); (case t => assumption); (case e => assumption); (case h => rfl)) | ((with_reducible refine' m_isi_iff ?t ?k ?h ?e ?_); (case t => assumption); (case e => assumption); (case h => rfl)) | ((with_reducible refine' m_isi_eith ?t ?k ?h ?e ?_); (case t => assumption); (case e => assumption); (case h => rfl)) | ((with_reducible refine' m_isi_tryy ?t ?k ?h ?e ?_); (case t => assumption); (case e => assumption); (case h => rfl)))
def sdL (c : Int) : List Pt := (List.range (c % 4).toNat).map fun k => plF ((c / 4 + ((k : Nat) : Int)) % 6) (c / 24 + ((k : Nat) : Int) * 1009)
def p_z_side (d : Ad) : PF := fun ds W Q => ∃ c : Int, ds = [.int c] ∧ Q (.tup [.lst (psD d (sdL c)), .raw (.str (wrIn (sdL c)))]) W
def p_z_sided (_ : Ad) : PF := fun ds W Q => ∃ w c : Int, ds = [.int w, .int c] ∧ 6 ≤ w ∧ w ≤ 8 ∧ Q (.bl true) W
abbrev sp_z_side (d : Ad) : Sp := lift d.K (p_z_side d)
abbrev sp_z_sided (d : Ad) : Sp := lift d.K (p_z_sided d)
def sp_law (d : Ad) : Sp := spLaw d.K
abbrev N_z_side : List Str := ["_law_cell", "_law_pairs", "_law_k", "_law_words", "_law_pair"]
def t_z_side (d : Ad) : TS :=
  (tSeq (tAsg (tLst tNil) (gName 1))
  (tSeq (tFor (iRng1 (tCons (aMod (tVar 0) (tC (.int 4))) tNil)) (gName 2) (tDrop (tBM d.K "list" rAppend (tVar 1) (tCons (tCall (sp_z_plain_pair d) [] E0 (tCons (aMod (aAdd (aDiv (tVar 0) (tC (.int 4))) (tVar 2)) (tC (.int 6))) (tCons (aAdd (aDiv (tVar 0) (tC (.int 24))) (aMul (tVar 2) (tC (.int 1009)))) tNil))) tNil))))
  (tSeq (tAsg (aCatQ d.K (aCatQ d.K (tLst (tCons (tC (.str "(")) tNil)) (aRep (tLst (tCons (aJoin d.K (tC (.str " ; ")) (tLc (iList d.K (tVar 1)) (gName 4) tYes (tOp (rIxT d.K) (tVar 4) (tC (.int 1))) [4])) tNil)) (tCB rInt1 (tCons (tOp rGt (tCB (Evl.rLenS d.K) (tCons (tVar 1) tNil)) (tC (.int 0))) tNil)))) (tLst (tCons (tC (.str ")")) tNil))) (gName 3))
  (tRet (tTup (tCons (tLc (iList d.K (tVar 1)) (gName 4) tYes (tOp (rIxT d.K) (tVar 4) (tC (.int 0))) [4]) (tCons (aJoin d.K (tC (.str " ")) (tVar 3)) tNil)))))))
abbrev N_z_sided : List Str := ["_law_way", "_law_cell", "_law_parts", "_law_one", "_law_others", "_law_other", "_law_handed", "_law_slot_here", "_law_name_here", "_law_part", "_law_text", "_law_good"]
def t_z_sided_8 (d : Ad) : TS :=
  (tSeq (tDrop (tBM d.K "list" rAppend (tOp (rIxL d.K) (tVar 6) (tC (.int 1))) (tCons (tMakeO d.cWait) tNil)))
  (tSeq (tIfS (tOr (tNot (tB (tCB (rIsi d.K) (tCons (tFld d.K (tVar 9) "parts") (tCons (tC (.ty "list")) tNil))))) (tNot (tB (tCB (rIsi d.K) (tCons (tFld d.K (tVar 9) "others") (tCons (tC (.ty "list")) tNil)))))) (tRet (tC (.bl false))) tNext)
  (tSeq (tIfS (tOr (tTest (tOp rNe (tCB (Evl.rLenS d.K) (tCons (tFld d.K (tVar 9) "parts") tNil)) (tCB (Evl.rLenS d.K) (tCons (tVar 2) tNil)))) (tTest (tOp rNe (tCB (Evl.rLenS d.K) (tCons (tFld d.K (tVar 9) "others") tNil)) (tCB (Evl.rLenS d.K) (tCons (tVar 4) tNil))))) (tRet (tC (.bl false))) tNext)
  (tRet (tCall (sp_z_shows d) [] E0 (tCons (tVar 9) (tCons (tVar 10) (tCons (aAdd (aAdd (aAdd (tC (.int 2)) (tCB rInt1 (tCons (tOp rGt (tVar 0) (tC (.int 6))) tNil))) (tCB (Evl.rLenS d.K) (tCons (tVar 2) tNil))) (tCB (Evl.rLenS d.K) (tCons (tVar 4) tNil))) tNil))))))))
def t_z_sided_7 (d : Ad) : TS :=
  (tSeq (tDrop (tBM0 d.K "list" rClear (tOp (rIxL d.K) (tVar 6) (tC (.int 0)))))
  (t_z_sided_8 d))
def t_z_sided_6 (d : Ad) : TS :=
  (tSeq (tIfS (tOr (tNot (tB (tVar 11))) (tOr (tTest (tOp rNe (tCB (Evl.rLenS d.K) (tCons (tOp (rIxL d.K) (tVar 6) (tC (.int 0))) tNil)) (tCB (Evl.rLenS d.K) (tCons (tVar 2) tNil)))) (tTest (tOp rNe (tCB (Evl.rLenS d.K) (tCons (tOp (rIxL d.K) (tVar 6) (tC (.int 1))) tNil)) (tCB (Evl.rLenS d.K) (tCons (tVar 4) tNil)))))) (tRet (tC (.bl false))) tNext)
  (t_z_sided_7 d))
def t_z_sided_5 (d : Ad) : TS :=
  (Evl.tCut (tIfS (tTest (tOp rEq (tVar 0) (tC (.int 6)))) (tSeq (tAsg (tMake d.cIf (sp_If_init d) [] E0 (tCons (tVar 7) (tCons (tOp (rIxL d.K) (tVar 6) (tC (.int 0))) (tCons (tOp (rIxL d.K) (tVar 6) (tC (.int 1))) tNil)))) (gName 9))
  (tSeq (tAsg (aAddS (aAddS (aAddS (aAddS (aAddS (tC (.str "if ")) (tVar 7)) (tC (.str " "))) (tVar 3)) (tC (.str " else "))) (tVar 5)) (gName 10))
  (tAsg (tAndV (tCB (rIsi d.K) (tCons (tVar 9) (tCons (tC (.ref d.cIf)) tNil))) (tOp rEq (tFld d.K (tVar 9) "slot") (tVar 7))) (gName 11)))) (tIfS (tTest (tOp rEq (tVar 0) (tC (.int 7)))) (tSeq (tAsg (tMake d.cEither (sp_Either_init d) [] E0 (tCons (tOp (rIxL d.K) (tVar 6) (tC (.int 0))) (tCons (tOp (rIxL d.K) (tVar 6) (tC (.int 1))) tNil))) (gName 9))
  (tSeq (tAsg (aAddS (aAddS (aAddS (tC (.str "either ")) (tVar 3)) (tC (.str " or "))) (tVar 5)) (gName 10))
  (tAsg (tCB (rIsi d.K) (tCons (tVar 9) (tCons (tC (.ref d.cEither)) tNil))) (gName 11)))) (tSeq (tAsg (tMake d.cTry (sp_Try_init d) [] E0 (tCons (tOp (rIxL d.K) (tVar 6) (tC (.int 0))) (tCons (tVar 8) (tCons (tVar 7) (tCons (tOp (rIxL d.K) (tVar 6) (tC (.int 1))) tNil))))) (gName 9))
  (tSeq (tAsg (aAddS (aAddS (aAddS (aAddS (aAddS (aAddS (aAddS (tC (.str "try ")) (tVar 3)) (tC (.str " on "))) (tVar 8)) (tC (.str " "))) (tVar 7)) (tC (.str " "))) (tVar 5)) (gName 10))
  (tAsg (tAndV (tCB (rIsi d.K) (tCons (tVar 9) (tCons (tC (.ref d.cTry)) tNil))) (tAndV (tOp rEq (tFld d.K (tVar 9) "slot") (tVar 7)) (tOp rEq (tFld d.K (tVar 9) "name") (tVar 8)))) (gName 11))))))
  (t_z_sided_6 d))
def t_z_sided_4 (d : Ad) : TS :=
  (tSeq (tAsg (tCall (sp_z_name d) [] E0 (tCons (aDiv (tVar 1) (tC (.int 3))) tNil)) (gName 8))
  (t_z_sided_5 d))
def t_z_sided (d : Ad) : TS :=
  (tSeq (tAsg (tCall (sp_z_side d) [] E0 (tCons (tVar 1) tNil)) (gTup d.K 2 (gCons (gName 2) (gCons (gName 3) gNil))))
  (tSeq (tAsg (tCall (sp_z_side d) [] E0 (tCons (aMod (aMul (tVar 1) (tC (.int 69621))) (tC (.int 2147483629))) tNil)) (gTup d.K 2 (gCons (gName 4) (gCons (gName 5) gNil))))
  (tSeq (tAsg (tLst (tCons (tCB (rListOf d.K) (tCons (tVar 2) tNil)) (tCons (tCB (rListOf d.K) (tCons (tVar 4) tNil)) tNil))) (gName 6))
  (tSeq (tAsg (tCall (sp_z_slot d) [] E0 (tCons (aDiv (tVar 1) (tC (.int 5))) tNil)) (gName 7))
  (t_z_sided_4 d)))))
abbrev N_law : List Str := ["_law_script", "_law_cells", "_law_k", "_law_cell", "_law_way", "_law_part", "_law_text"]
def t_law_2 (d : Ad) : TS :=
  (tSeq (tFor (iRng1 (tCons (tCB (Evl.rLenS d.K) (tCons (tVar 1) tNil)) tNil)) (gName 2) (tSeq (tAsg (aMod (tOp (rIxL d.K) (tVar 1) (tVar 2)) (aPow (tC (.int 10)) (tC (.int 60)))) (gName 3))
  (tSeq (tAsg (aMod (tVar 2) (tC (.int 9))) (gName 4))
  (tIfS (tTest (tOp rGt (tVar 4) (tC (.int 5)))) (tIfS (tNot (tB (tCall (sp_z_sided d) [] E0 (tCons (tVar 4) (tCons (tVar 3) tNil))))) (tRet (tC (.bl false))) tNext) (tSeq (tAsg (tCall (sp_z_plain_pair d) [] E0 (tCons (tVar 4) (tCons (tVar 3) tNil))) (gTup d.K 2 (gCons (gName 5) (gCons (gName 6) gNil))))
  (tIfS (tOr (tNot (tB (tCall (sp_z_plain_right d) [] E0 (tCons (tVar 5) (tCons (tVar 4) (tCons (tVar 3) tNil)))))) (tNot (tB (tCall (sp_z_shows d) [] E0 (tCons (tVar 5) (tCons (tVar 6) (tCons (tC (.int 1)) tNil))))))) (tRet (tC (.bl false))) tNext))))))
  (tRet (tC (.bl true))))
def t_law_1 (d : Ad) : TS :=
  (tSeq (tAsg (aCatQ d.K (tLst (tCons (tC (.int 0)) (tCons (tC (.int 1)) (tCons (tC (.int 2)) (tCons (tC (.int 3)) (tCons (tC (.int 4)) (tCons (tC (.int 5)) (tCons (tC (.int 6)) (tCons (tC (.int 7)) (tCons (tC (.int 8)) tNil)))))))))) (tSl (rSlL d.K) (tVar 0) tNoPart (tPart (tC (.int 40))))) (gName 1))
  (t_law_2 d))
def t_law (d : Ad) : TS :=
  (tSeq (tIfS (tNot (tB (tCall (sp_z_shows d) [] E0 (tCons (tMakeO d.cPart) (tCons (tC (.str "")) (tCons (tC (.int 0)) tNil)))))) (tRet (tC (.bl false))) tNext)
  (t_law_1 d))
local macro_rules | `(tactic| walk_at "callm") => `(tactic| first | ((with_reducible refine' d_addSh ?h ?h2 ?h3 ?_); (case h => walk_at "sh"); (case h2 => walk_at "sh"); (case h3 => decide)))
section
variable {d : Ad} {vs : List V} {H : Hp} {Q : VK} {E : XK}
theorem sdL_plain {c : Int} : ∀ p ∈ sdL c, okP p ∧ isPlain p = true := fun p hp => by
  obtain ⟨k, _, rfl⟩ := List.mem_map.mp hp
  exact plF_ok _ _
theorem sdL_ok (c : Int) : okPs (sdL c) := okPs_iff.mpr fun p hp => (sdL_plain p hp).1
theorem sdL_len (c : Int) : (sdL c).length ≤ 3 := by unfold sdL; rw [List.length_map, List.length_range]; omega
theorem plain_len1 {p : Pt} (h : isPlain p = true) : lenP p = 1 := by cases p <;> simp [isPlain] at h <;> simp [lenP]
theorem plain_nd1 {p : Pt} (h : isPlain p = true) : ndP p = 1 := by cases p <;> simp [isPlain] at h <;> simp [ndP]
theorem plains_l : ∀ {ps : List Pt}, (∀ p ∈ ps, isPlain p = true) → lenPs ps = ps.length ∧ ndPs ps ≤ 1
  | [], _ => ⟨rfl, by simp [ndPs]⟩
  | p :: r, h => by
    obtain ⟨h1, h2⟩ := plains_l (ps := r) fun q hq => h q (List.mem_cons_of_mem _ hq)
    have h3 := plain_len1 (h p List.mem_cons_self)
    have h4 := plain_nd1 (h p List.mem_cons_self)
    refine ⟨by rw [lenPs, h1, h3, List.length_cons]; omega, by rw [ndPs]; omega⟩
theorem pure_z_side (h : sp_z_side d vs H Q E) : t_z_side d { nx := fun _ H' => Q .non H', rt := Q } (start N_z_side vs) H := by
  refine lift_vs h fun ds W Q hp => ?_
  obtain ⟨c, rfl, k⟩ := hp
  show WS d.K (t_z_side d) [some (.raw (.int c)), none, none, none, none] W _
  unfold t_z_side
  refine ws_seq <| ws_asg <| we_lst <| wa_nil ⟨by decide, fun R hR => wg_name (e' := [some (.raw (.int c)), some (.ptr R), none, none, none]) rfl ?_⟩
  have pr : ∀ p : Pt, D := fun p => .tup [pD d p, .raw (.str (wrP p))]
  refine ws_seq <| ws_for <| wi_rng1 <| wa_cons <| we_op <| we_var rfl <| we_c <| d_i (by decide) <| wa_nil <| d_r1 (by omega) ?_
  refine ⟨fun i e W' => e = [some (.raw (.int c)), some (.ptr R), none, none, none] ∧ W' = wset W R (.lst (((sdL c).take i).map fun p => .tup [pD d p, .raw (.str (wrP p))])), nx_id ⟨rfl, by simp⟩, fun _ _ _ _ _ => trivial, ?_, ?_⟩
  · rintro i u e' W' hi hu ⟨rfl, rfl⟩
    cases hu
    have hi : i < (c % 4).toNat := hi
    rw [show (0 + (i : Nat) * 1 : Int) = ((i : Nat) : Int) by omega]
    refine wg_name (e' := [some (.raw (.int c)), some (.ptr R), some (.raw (.int (i : Nat))), none, none]) rfl ?_
    have gi : (sdL c)[i]? = some (plF ((c / 4 + ((i : Nat) : Int)) % 6) (c / 24 + ((i : Nat) : Int) * 1009)) := by
      unfold sdL
      rw [List.getElem?_map, List.getElem?_range hi]; rfl
    walk_at "mgo"
    refine ⟨_, _, rfl, wa_nil <| d_app ws_same (by rw [List.length_map, List.length_take, sizeLine_eq]; have := sdL_len c; omega) ?_⟩
    refine nx_le (e' := [some (.raw (.int c)), some (.ptr R), none, none, none]) (by walk_at "le") ⟨rfl, ?_⟩
    rw [ws_ws, List.take_add_one, gi, List.map_append]; rfl
  · rintro e' W' ⟨rfl, rfl⟩
    have e0 : (itR 0 1 (c % 4).toNat).n = (sdL c).length := by show (c % 4).toNat = _; unfold sdL; rw [List.length_map, List.length_range]
    rw [e0, List.take_length]
    have l3 := sdL_len c
    have okS := sdL_ok c
    have plS := plains_l fun p hp => (sdL_plain (c := c) p hp).2
    have plS : lenPs (sdL c) = (sdL c).length ∧ ndPs (sdL c) ≤ 1 ∧ ∀ p ∈ sdL c, lenP p = 1 := ⟨plS.1, plS.2, fun p hp => plain_len1 (sdL_plain p hp).2⟩
    generalize sdL c = ps at k l3 okS plS
    have gR : wset W R (.lst (ps.map fun p => D.tup [pD d p, .raw (.str (wrP p))])) R = some (.lst (ps.map fun p => D.tup [pD d p, .raw (.str (wrP p))])) := ws_same
    have sb : Sub W (wset W R (.lst (ps.map fun p => D.tup [pD d p, .raw (.str (wrP p))]))) := (Sub.refl _).new hR
    generalize wset W R (.lst (ps.map fun p => D.tup [pD d p, .raw (.str (wrP p))])) = W1 at gR sb ⊢
    walk_at "mgo"
    intro q hq
    refine fz_new hq ?_
    clear hq q
    walk_at "mgo"
    have ln : (ps.map fun p => D.tup [pD d p, .raw (.str (wrP p))]).length = ps.length := List.length_map _
    refine ⟨by show (ps.map fun p => D.tup [pD d p, .raw (.str (wrP p))]).length ≤ _; rw [ln]; omega, (ps.map wrP).map D.str, by show _ = (ps.map fun p => D.tup [pD d p, .raw (.str (wrP p))]).length; simp only [List.length_map], ?_, fun q hq => fz_new hq ?_⟩
    · intro q i u L hq hi hu
      have hu : (ps.map fun p => D.tup [pD d p, .raw (.str (wrP p))])[i]? = some u := hu
      rw [List.getElem?_map] at hu
      obtain ⟨p, hp, rfl⟩ := Option.map_eq_some_iff.mp hu
      refine wg_name rfl <| we_op <| we_var rfl <| we_c <| d_ixT rfl ?_
      exact fz_id (sub_q (Sub.refl _) ⟨by rw [List.getElem?_map, List.getElem?_map, hp]; rfl, rfl⟩)
    have lw : ∀ s ∈ ps.map wrP, s.length ≤ 252 := fun s hs => by
      obtain ⟨p, hp, rfl⟩ := List.mem_map.mp hs
      have h1 := wrP_len (okPs_iff.mp okS p hp)
      obtain ⟨i, hi⟩ := List.mem_iff_getElem?.mp hp
      have h2 := lenP_mem hi
      have h5 := plS.1
      have h6 : lenP p = 1 := plS.2.2 p hp
      omega
    have sl := sum_le (f := fun w : Str => w.length) lw
    have l4 : (ps.map wrP).length ≤ 3 := by rw [List.length_map]; omega
    refine d_join (ys := ps.map wrP) (.lst _) (by
      have : (" ; " : Str).length = 3 := by decide +kernel
      rw [this]
      generalize ((ps.map wrP).map (fun w : Str => w.length)).sum = a at sl ⊢
      generalize (ps.map wrP).length = b at sl l4 ⊢
      omega) ?_
    rw [join_parts]
    walk_at "mgo"
    intro q hq
    refine fz_new hq ?_
    clear hq q
    walk_at "mgo"
    obtain ⟨ws, hws, hj, hl⟩ : ∃ ws : List Str, (List.replicate (if dB (0 < (((ps.map fun p => D.tup [pD d p, .raw (.str (wrP p))]).length : Nat) : Int)) = true then (1 : Int) else 0).toNat [D.raw (.str (wr ps))]).flatten = ws.map D.str ∧ Txt.join " " (("(" : Str) :: ws ++ [(")" : Str)]) = wrIn ps ∧ ws.length ≤ 1 ∧ ∀ w ∈ ws, w.length ≤ 2000 := by
      rw [ln]
      by_cases z : ps = []
      · subst z
        refine ⟨[], ?_, by decide +kernel, by decide, fun w h => by cases h⟩
        rw [if_neg (by rw [dB_f (by decide)]; decide)]; rfl
      · have pz : 0 < ps.length := List.length_pos_iff.mpr z
        refine ⟨[wr ps], ?_, ?_, by show 1 ≤ 1; decide, fun w h => ?_⟩
        · rw [if_pos (dB_t (by omega))]; rfl
        · rw [← side_tx z]
          have e1 := show ("( " : Str) = txs ["("] by decide +kernel
          rw [e1, ← tx_one (wr ps), txs_tx (by simp) (by simp), tx_lit (ws := [")"]) (by decide +kernel) (by simp) (by simp)]; rfl
        · rw [List.mem_singleton.mp h]
          have := wr_len okS
          have := plS.1
          omega
    generalize hcn : (if dB (0 < (((ps.map fun p => D.tup [pD d p, .raw (.str (wrP p))]).length : Nat) : Int)) = true then (1 : Int) else 0) = cn at hws ⊢
    have c1 : 0 ≤ cn ∧ cn ≤ 1 := by rw [← hcn]; split <;> decide
    refine d_rep (.lst _) (by omega) (by rw [sizeLine_eq]; show 1 * _ ≤ _; omega) fun q hq => ?_
    rw [hws]
    have sb2 := sb.trans ((Sub.refl W1).new (c := .lst (ws.map D.str)) hq)
    have gR2 : wset W1 q (.lst (ws.map D.str)) R = some (.lst (ps.map fun p => D.tup [pD d p, .raw (.str (wrP p))])) := by rw [ws_ne (ne_w gR hq)]; exact gR
    have gq : wset W1 q (.lst (ws.map D.str)) q = some (.lst (ws.map D.str)) := ws_same
    generalize wset W1 q (.lst (ws.map D.str)) = W2 at sb2 gR2 gq ⊢
    have lws : (ws.map D.str).length ≤ 1 := by rw [List.length_map]; exact hl.1
    refine d_catQ (.lst _) (.own gq) (by rw [sizeLine_eq]; show 1 + _ ≤ _; omega) fun q2 hq2 => ?_
    have sb3 := sb2.trans ((Sub.refl W2).new (c := .lst ([D.raw (.str "(")] ++ ws.map D.str)) hq2)
    have gR3 : wset W2 q2 (.lst ([D.raw (.str "(")] ++ ws.map D.str)) R = some (.lst (ps.map fun p => D.tup [pD d p, .raw (.str (wrP p))])) := by rw [ws_ne (ne_w gR2 hq2)]; exact gR2
    have gq3 : wset W2 q2 (.lst ([D.raw (.str "(")] ++ ws.map D.str)) q2 = some (.lst ([D.raw (.str "(")] ++ ws.map D.str)) := ws_same
    generalize wset W2 q2 (.lst ([D.raw (.str "(")] ++ ws.map D.str)) = W3 at sb3 gR3 gq3 ⊢
    refine we_lst <| wa_cons <| we_c <| wa_nil ⟨by show 1 ≤ sizeLine; rw [sizeLine_eq]; decide, fun q4 hq4 => ?_⟩
    have n42 : q2 ≠ q4 := ne_w gq3 hq4
    refine d_catQ (.own (by rw [ws_ne n42]; exact gq3)) (.own ws_same) (by rw [List.length_append, sizeLine_eq]; show 1 + _ + 1 ≤ _; omega) fun q5 hq5 => ?_
    have sb5 := sb3.trans (((Sub.refl W3).new (c := .lst [D.raw (.str ")")]) hq4).trans ((Sub.refl _).new (c := .lst ([D.raw (.str "(")] ++ ws.map D.str ++ [D.raw (.str ")")])) hq5))
    have nR4 : R ≠ q4 := ne_w gR3 hq4
    have gR4 : wset W3 q4 (.lst [D.raw (.str ")")]) R = some (.lst (ps.map fun p => D.tup [pD d p, .raw (.str (wrP p))])) := by rw [ws_ne nR4]; exact gR3
    have gR5 : wset (wset W3 q4 (.lst [D.raw (.str ")")])) q5 (.lst ([D.raw (.str "(")] ++ ws.map D.str ++ [D.raw (.str ")")])) R = some (.lst (ps.map fun p => D.tup [pD d p, .raw (.str (wrP p))])) := by rw [ws_ne (ne_w gR4 hq5)]; exact gR4
    have gq5 : wset (wset W3 q4 (.lst [D.raw (.str ")")])) q5 (.lst ([D.raw (.str "(")] ++ ws.map D.str ++ [D.raw (.str ")")])) q5 = some (.lst ((("(" : Str) :: ws ++ [(")" : Str)]).map D.str)) := by rw [ws_same, List.map_append]; rfl
    generalize wset (wset W3 q4 (.lst [D.raw (.str ")")])) q5 (.lst ([D.raw (.str "(")] ++ ws.map D.str ++ [D.raw (.str ")")])) = W5 at sb5 gR5 gq5 ⊢
    refine wg_name (e' := [some (.raw (.int c)), some (.ptr R), none, some (.ptr q5), none]) rfl ?_
    walk_at "mgo"
    refine ⟨by show (ps.map fun p => D.tup [pD d p, .raw (.str (wrP p))]).length ≤ _; rw [ln]; omega, psD d ps, by show _ = (ps.map fun p => D.tup [pD d p, .raw (.str (wrP p))]).length; rw [ln, psD_len], ?_, fun q hq => fz_new hq ?_⟩
    · intro q i u L hq hi hu
      have hu : (ps.map fun p => D.tup [pD d p, .raw (.str (wrP p))])[i]? = some u := hu
      rw [List.getElem?_map] at hu
      obtain ⟨p, hp, rfl⟩ := Option.map_eq_some_iff.mp hu
      refine wg_name rfl <| we_op <| we_var rfl <| we_c <| d_ixT rfl ?_
      exact fz_id (sub_q (Sub.refl _) ⟨by rw [psD_map, List.getElem?_map, hp]; rfl, rfl⟩)
    walk_at "mgo"
    refine d_join (ys := ("(" : Str) :: ws ++ [(")" : Str)]) (.own gq5) ?_ ?_
    · have sl := sum_le (f := fun w : Str => w.length) (l := ("(" : Str) :: ws ++ [(")" : Str)]) (k := 2000) fun w hw => by
        rcases List.mem_append.mp hw with hw | hw
        · rcases List.mem_cons.mp hw with rfl | hw
          · exact (by decide +kernel : ("(" : Str).length ≤ 2000)
          · exact hl.2 w hw
        · rw [List.mem_singleton.mp hw]; exact (by decide +kernel : (")" : Str).length ≤ 2000)
      have e3 : (("(" : Str) :: ws ++ [(")" : Str)]).length = ws.length + 2 := by simp
      have := hl.1
      rw [e3] at sl ⊢
      have e1 : (" " : Str).length = 1 := by decide +kernel
      rw [e1]
      omega
    rw [hj]
    walk_at "mgo"
    exact fz_id (sub_q sb5 k)
theorem try_tx (ps os : List Pt) (n s : Str) : "try " ++ wrIn ps ++ " on " ++ n ++ " " ++ s ++ " " ++ wrIn os = wr [.tryy ps n s os] := by
  rw [wr_one]
  show "try " ++ tx (inT ps) ++ " on " ++ n ++ " " ++ s ++ " " ++ tx (inT os) = tx (tokP _)
  rw [show ("try " : Str) = txs ["try"] by decide +kernel, txs_tx (by simp) (in_ne ps), tx_mid (ws := ["on"]) (by decide +kernel) (by simp) (by simp), tx_word n (by simp), tx_blank, tx_word s (by simp), tx_blank, txs_tx (by simp) (in_ne os), tok_tryy]
  congr 1
  simp
theorem pure_z_sided (T : TParts d) (h : sp_z_sided d vs H Q E) : t_z_sided d { nx := fun _ H' => Q .non H', rt := Q } (start N_z_sided vs) H := by
  refine lift_vs h fun ds W Q hp => ?_
  obtain ⟨w, c, rfl, w6, w8, k⟩ := hp
  show WS d.K (t_z_sided d) [some (.raw (.int w)), some (.raw (.int c)), none, none, none, none, none, none, none, none, none, none] W _
  unfold t_z_sided
  refine ws_seq <| ws_asg <| we_call <| wa_cons <| we_var rfl <| wa_nil ⟨c, rfl, ?_⟩
  refine wg_tupL ⟨rfl, wgs_cons <| wg_name (e' := [some (.raw (.int w)), some (.raw (.int c)), some (.lst (psD d (sdL c))), none, none, none, none, none, none, none, none, none]) rfl <| wgs_cons <| wg_name (e' := [some (.raw (.int w)), some (.raw (.int c)), some (.lst (psD d (sdL c))), some (.raw (.str (wrIn (sdL c)))), none, none, none, none, none, none, none, none]) rfl <| wgs_nil ?_⟩
  refine ws_seq <| ws_asg <| we_call <| wa_cons <| we_op <| we_op <| we_var rfl <| we_c <| d_i (by walk_at "sc") <| we_c <| d_i (by decide) <| wa_nil ⟨_, rfl, ?_⟩
  generalize c * 69621 % 2147483629 = c2
  refine wg_tupL ⟨rfl, wgs_cons <| wg_name (e' := [some (.raw (.int w)), some (.raw (.int c)), some (.lst (psD d (sdL c))), some (.raw (.str (wrIn (sdL c)))), some (.lst (psD d (sdL c2))), none, none, none, none, none, none, none]) rfl <| wgs_cons <| wg_name (e' := [some (.raw (.int w)), some (.raw (.int c)), some (.lst (psD d (sdL c))), some (.raw (.str (wrIn (sdL c)))), some (.lst (psD d (sdL c2))), some (.raw (.str (wrIn (sdL c2)))), none, none, none, none, none, none]) rfl <| wgs_nil ?_⟩
  have ok1 := sdL_ok c
  have ok2 := sdL_ok c2
  have l1 := sdL_len c
  have l2 := sdL_len c2
  have n1 := plains_l fun p hp => (sdL_plain (c := c) p hp).2
  have n2 := plains_l fun p hp => (sdL_plain (c := c2) p hp).2
  generalize sdL c = ps at ok1 l1 n1 ⊢
  generalize sdL c2 = os at ok2 l2 n2 ⊢
  have g1 : (psD d ps).length = ps.length := psD_len ps
  have g2 : (psD d os).length = os.length := psD_len os
  refine ws_seq <| ws_asg <| we_lst <| wa_cons <| we_cb <| wa_cons <| we_var rfl <| wa_nil <| d_list (.lst _) fun a0 ha0 => wa_cons <| we_cb <| wa_cons <| we_var rfl <| wa_nil <| d_list (.lst _) fun a1 ha1 => wa_nil ⟨by show 2 ≤ sizeLine; rw [sizeLine_eq]; decide, fun P hP => wg_name (e' := [some (.raw (.int w)), some (.raw (.int c)), some (.lst (psD d ps)), some (.raw (.str (wrIn ps))), some (.lst (psD d os)), some (.raw (.str (wrIn os))), some (.ptr P), none, none, none, none, none]) rfl ?_⟩
  have w0 : W a0 = none := ha0
  have n01 : a0 ≠ a1 := ne_w ws_same ha1
  have w1 : W a1 = none := by rwa [ws_ne n01.symm] at ha1
  have h0' : wset (wset W a0 (.lst (psD d ps))) a1 (.lst (psD d os)) a0 = some (.lst (psD d ps)) := by rw [ws_ne n01]; exact ws_same
  have h1' : wset (wset W a0 (.lst (psD d ps))) a1 (.lst (psD d os)) a1 = some (.lst (psD d os)) := ws_same
  have p0 : a0 ≠ P := ne_w h0' hP
  have p1 : a1 ≠ P := ne_w h1' hP
  have sb : Sub W (wset (wset (wset W a0 (.lst (psD d ps))) a1 (.lst (psD d os))) P (.lst [.ptr a0, .ptr a1])) := (((Sub.refl _).new w0).new w1).trans ((Sub.refl _).new hP)
  have gP : wset (wset (wset W a0 (.lst (psD d ps))) a1 (.lst (psD d os))) P (.lst [.ptr a0, .ptr a1]) P = some (.lst [.ptr a0, .ptr a1]) := ws_same
  have h0 : wset (wset (wset W a0 (.lst (psD d ps))) a1 (.lst (psD d os))) P (.lst [.ptr a0, .ptr a1]) a0 = some (.lst (psD d ps)) := by rw [ws_ne p0]; exact h0'
  have h1 : wset (wset (wset W a0 (.lst (psD d ps))) a1 (.lst (psD d os))) P (.lst [.ptr a0, .ptr a1]) a1 = some (.lst (psD d os)) := by rw [ws_ne p1]; exact h1'
  generalize wset (wset (wset W a0 (.lst (psD d ps))) a1 (.lst (psD d os))) P (.lst [.ptr a0, .ptr a1]) = W1 at sb gP h0 h1 ⊢
  clear ha0 ha1 hP h0' h1'
  refine ws_seq <| ws_asg <| we_call <| wa_cons <| we_op <| we_var rfl <| we_c <| d_i (by walk_at "sc") <| wa_nil ⟨_, rfl, wg_name (e' := [some (.raw (.int w)), some (.raw (.int c)), some (.lst (psD d ps)), some (.raw (.str (wrIn ps))), some (.lst (psD d os)), some (.raw (.str (wrIn os))), some (.ptr P), some (.raw (.str (slF (c / 5)))), none, none, none, none]) rfl ?_⟩
  unfold t_z_sided_4
  have osl := slF_ok (c / 5)
  generalize slF (c / 5) = sl at osl ⊢
  refine ws_seq <| ws_asg <| we_call <| wa_cons <| we_op <| we_var rfl <| we_c <| d_i (by walk_at "sc") <| wa_nil ⟨_, rfl, wg_name (e' := [some (.raw (.int w)), some (.raw (.int c)), some (.lst (psD d ps)), some (.raw (.str (wrIn ps))), some (.lst (psD d os)), some (.raw (.str (wrIn os))), some (.ptr P), some (.raw (.str sl)), some (.raw (.str (naF (c / 3)))), none, none, none]) rfl ?_⟩
  have onm := naF_ok (c / 3)
  generalize naF (c / 3) = nm at onm ⊢
  unfold t_z_sided_5
  have s1 := wrIn_sh ok1 (by omega)
  have s2 := wrIn_sh ok2 (by omega)
  have s3 : Short 1 sl := by have := sl_len osl; unfold Short; omega
  have s4 : Short 1 nm := by have := onm.l8; unfold Short; omega
  refine ws_cut (fun e' W2 => ∃ X, e' = [some (.raw (.int w)), some (.raw (.int c)), some (.lst (psD d ps)), some (.raw (.str (wrIn ps))), some (.lst (psD d os)), some (.raw (.str (wrIn os))), some (.ptr P), some (.raw (.str sl)), some (.raw (.str nm)), some (pD d X), some (.raw (.str (wrP X))), some (.raw (.bl true))] ∧ W2 = W1 ∧ (w = 6 ∧ X = .iff sl ps os ∨ w = 7 ∧ X = .eith ps os ∨ w = 8 ∧ X = .tryy ps nm sl os)) ?_ ?_
  · refine ws_if <| we_test <| we_op <| we_var rfl <| we_c <| d_eqI <| we_bl ?_
    by_cases z6 : w = 6
    · refine w_tt (dB_t z6) ?_
      have cc : Cls d.K d.cIf := T.cl .iff
      have m0 : NoAttr d.K d.cIf "slot" := T.na .iff "slot" (by decide)
      refine ws_seq <| ws_asg <| mk_If <| wa_cons <| we_var rfl <| wa_cons <| we_op <| we_var rfl <| we_c <| d_ixL (.own gP) rfl <| wa_cons <| we_op <| we_var rfl <| we_c <| d_ixL (.own gP) rfl <| wa_nil ⟨_, _, _, _, _, rfl, .own h0, .own h1, wg_name (e' := [some (.raw (.int w)), some (.raw (.int c)), some (.lst (psD d ps)), some (.raw (.str (wrIn ps))), some (.lst (psD d os)), some (.raw (.str (wrIn os))), some (.ptr P), some (.raw (.str sl)), some (.raw (.str nm)), some (pD d (.iff sl ps os)), none, none]) rfl ?_⟩
      walk_at "mgo"
      rw [iff_tx, wr_one]
      refine d_isiK T (j := .iff) (by decide) rfl ⟨true, rfl, ?_⟩
      rw [if_pos rfl]
      rw [pD_iff]
      walk_at "mgo"
      rw [dB_t trivial, ← pD_iff]
      exact nx_le (e' := [some (.raw (.int w)), some (.raw (.int c)), some (.lst (psD d ps)), some (.raw (.str (wrIn ps))), some (.lst (psD d os)), some (.raw (.str (wrIn os))), some (.ptr P), some (.raw (.str sl)), some (.raw (.str nm)), some (pD d (.iff sl ps os)), some (.raw (.str (wrP (.iff sl ps os)))), some (.raw (.bl true))]) (by walk_at "le") ⟨_, rfl, rfl, .inl ⟨z6, rfl⟩⟩
    refine w_ff (dB_f z6) ?_
    refine ws_if <| we_test <| we_op <| we_var rfl <| we_c <| d_eqI <| we_bl ?_
    by_cases z7 : w = 7
    · refine w_tt (dB_t z7) ?_
      refine ws_seq <| ws_asg <| mk_Either ?_
      walk_at "mgo"
      refine ⟨_, _, _, _, rfl, .own h0, .own h1, wg_name (e' := [some (.raw (.int w)), some (.raw (.int c)), some (.lst (psD d ps)), some (.raw (.str (wrIn ps))), some (.lst (psD d os)), some (.raw (.str (wrIn os))), some (.ptr P), some (.raw (.str sl)), some (.raw (.str nm)), some (pD d (.eith ps os)), none, none]) rfl ?_⟩
      walk_at "mgo"
      rw [eith_tx, wr_one]
      refine d_isiK T (j := .eith) (by decide) rfl <| wg_name (e' := [some (.raw (.int w)), some (.raw (.int c)), some (.lst (psD d ps)), some (.raw (.str (wrIn ps))), some (.lst (psD d os)), some (.raw (.str (wrIn os))), some (.ptr P), some (.raw (.str sl)), some (.raw (.str nm)), some (pD d (.eith ps os)), some (.raw (.str (wrP (.eith ps os)))), some (.raw (.bl true))]) rfl ?_
      exact nx_le (e' := [some (.raw (.int w)), some (.raw (.int c)), some (.lst (psD d ps)), some (.raw (.str (wrIn ps))), some (.lst (psD d os)), some (.raw (.str (wrIn os))), some (.ptr P), some (.raw (.str sl)), some (.raw (.str nm)), some (pD d (.eith ps os)), some (.raw (.str (wrP (.eith ps os)))), some (.raw (.bl true))]) (by walk_at "le") ⟨_, rfl, rfl, .inr (.inl ⟨z7, rfl⟩)⟩
    refine w_ff (dB_f z7) ?_
    have cc : Cls d.K d.cTry := T.cl .tryy
    have m0 : NoAttr d.K d.cTry "slot" := T.na .tryy "slot" (by decide)
    have m1 : NoAttr d.K d.cTry "name" := T.na .tryy "name" (by decide)
    refine ws_seq <| ws_asg <| mk_Try ?_
    walk_at "mgo"
    refine ⟨_, _, _, _, _, _, rfl, .own h0, .own h1, wg_name (e' := [some (.raw (.int w)), some (.raw (.int c)), some (.lst (psD d ps)), some (.raw (.str (wrIn ps))), some (.lst (psD d os)), some (.raw (.str (wrIn os))), some (.ptr P), some (.raw (.str sl)), some (.raw (.str nm)), some (pD d (.tryy ps nm sl os)), none, none]) rfl ?_⟩
    walk_at "mgo"
    rw [try_tx, wr_one]
    refine d_isiK T (j := .tryy) (by decide) rfl ⟨true, rfl, ?_⟩
    rw [if_pos rfl, pD_tryy]
    walk_at "mgo"
    refine w_tt (dB_t rfl) ?_
    walk_at "mgo"
    rw [dB_t trivial, ← pD_tryy]
    exact nx_le (e' := [some (.raw (.int w)), some (.raw (.int c)), some (.lst (psD d ps)), some (.raw (.str (wrIn ps))), some (.lst (psD d os)), some (.raw (.str (wrIn os))), some (.ptr P), some (.raw (.str sl)), some (.raw (.str nm)), some (pD d (.tryy ps nm sl os)), some (.raw (.str (wrP (.tryy ps nm sl os)))), some (.raw (.bl true))]) (by walk_at "le") ⟨_, rfl, rfl, .inr (.inr ⟨by omega, rfl⟩)⟩
  · rintro e' W2 ⟨X, rfl, rfl, hX⟩
    rcases hX with ⟨rfl, rfl⟩ | ⟨rfl, rfl⟩ | ⟨rfl, rfl⟩
    · have cc : Cls d.K d.cIf := T.cl .iff
      have m0 : NoAttr d.K d.cIf "parts" := T.na .iff "parts" (by decide)
      have m1 : NoAttr d.K d.cIf "others" := T.na .iff "others" (by decide)
      rw [pD_iff]
      unfold t_z_sided_6
      walk_at "mgo"
      refine w_ff (nB_f rfl) ?_
      walk_at "mgo"
      refine w_ff (nB_f rfl) ?_
      walk_at "mgo"
      unfold t_z_sided_7
      refine ws_seq <| ws_drop <| we_bm0 <| we_op <| we_var rfl <| we_c <| d_ixL (.own gP) rfl <| d_seq (.own h0) <| d_clr h0 ?_
      have gP2 : wset W2 a0 (.lst []) P = some (.lst [.ptr a0, .ptr a1]) := by rw [ws_ne p0.symm]; exact gP
      have h12 : wset W2 a0 (.lst []) a1 = some (.lst (psD d os)) := by rw [ws_ne n01.symm]; exact h1
      unfold t_z_sided_8
      refine ws_seq <| ws_drop <| we_bm <| we_op <| we_var rfl <| we_c <| d_ixL (.own gP2) rfl <| d_seq (.own h12) <| wa_cons <| mk_Wait <| wa_nil <| d_app h12 (by rw [sizeLine_eq]; omega) ?_
      have sb9 := (sb.new (c := .lst []) w0).new (c := .lst (psD d os ++ [pD d .wait])) w1
      generalize wset (wset W2 a0 (.lst [])) a1 (.lst (psD d os ++ [pD d .wait])) = W9 at sb9 ⊢
      walk_at "mgo"
      refine w_ff (nB_f rfl) ?_
      walk_at "mgo"
      refine w_ff (nB_f rfl) ?_
      walk_at "mgo"
      have e1 : lenP (.iff sl ps os) = 2 + lenPs ps + lenPs os := rfl
      have e2 : ndP (.iff sl ps os) = 3 + max (ndPs ps) (ndPs os) := by simp only [ndP]
      refine ⟨_, _, _, rfl, .inl ⟨.iff sl ps os, pD_iff.symm, rfl, ?_, ⟨osl, ok1, ok2⟩, by omega, by omega⟩, fz_id (sub_q sb9 k)⟩
      rw [if_neg (by rw [dB_f (by decide)]; decide)]
      rw [e1]
      omega
    · have cc : Cls d.K d.cEither := T.cl .eith
      have m0 : NoAttr d.K d.cEither "parts" := T.na .eith "parts" (by decide)
      have m1 : NoAttr d.K d.cEither "others" := T.na .eith "others" (by decide)
      rw [pD_eith]
      unfold t_z_sided_6
      walk_at "mgo"
      refine w_ff (nB_f rfl) ?_
      walk_at "mgo"
      refine w_ff (nB_f rfl) ?_
      walk_at "mgo"
      unfold t_z_sided_7
      refine ws_seq <| ws_drop <| we_bm0 <| we_op <| we_var rfl <| we_c <| d_ixL (.own gP) rfl <| d_seq (.own h0) <| d_clr h0 ?_
      have gP2 : wset W2 a0 (.lst []) P = some (.lst [.ptr a0, .ptr a1]) := by rw [ws_ne p0.symm]; exact gP
      have h12 : wset W2 a0 (.lst []) a1 = some (.lst (psD d os)) := by rw [ws_ne n01.symm]; exact h1
      unfold t_z_sided_8
      refine ws_seq <| ws_drop <| we_bm <| we_op <| we_var rfl <| we_c <| d_ixL (.own gP2) rfl <| d_seq (.own h12) <| wa_cons <| mk_Wait <| wa_nil <| d_app h12 (by rw [sizeLine_eq]; omega) ?_
      have sb9 := (sb.new (c := .lst []) w0).new (c := .lst (psD d os ++ [pD d .wait])) w1
      generalize wset (wset W2 a0 (.lst [])) a1 (.lst (psD d os ++ [pD d .wait])) = W9 at sb9 ⊢
      walk_at "mgo"
      refine w_ff (nB_f rfl) ?_
      walk_at "mgo"
      refine w_ff (nB_f rfl) ?_
      walk_at "mgo"
      have e1 : lenP (.eith ps os) = 3 + lenPs ps + lenPs os := rfl
      have e2 : ndP (.eith ps os) = 3 + max (ndPs ps) (ndPs os) := by simp only [ndP]
      refine ⟨_, _, _, rfl, .inl ⟨.eith ps os, pD_eith.symm, rfl, ?_, ⟨ok1, ok2⟩, by omega, by omega⟩, fz_id (sub_q sb9 k)⟩
      rw [if_pos (dB_t (by decide))]
      rw [e1]
      omega
    · have cc : Cls d.K d.cTry := T.cl .tryy
      have m0 : NoAttr d.K d.cTry "parts" := T.na .tryy "parts" (by decide)
      have m1 : NoAttr d.K d.cTry "others" := T.na .tryy "others" (by decide)
      rw [pD_tryy]
      unfold t_z_sided_6
      walk_at "mgo"
      refine w_ff (nB_f rfl) ?_
      walk_at "mgo"
      refine w_ff (nB_f rfl) ?_
      walk_at "mgo"
      unfold t_z_sided_7
      refine ws_seq <| ws_drop <| we_bm0 <| we_op <| we_var rfl <| we_c <| d_ixL (.own gP) rfl <| d_seq (.own h0) <| d_clr h0 ?_
      have gP2 : wset W2 a0 (.lst []) P = some (.lst [.ptr a0, .ptr a1]) := by rw [ws_ne p0.symm]; exact gP
      have h12 : wset W2 a0 (.lst []) a1 = some (.lst (psD d os)) := by rw [ws_ne n01.symm]; exact h1
      unfold t_z_sided_8
      refine ws_seq <| ws_drop <| we_bm <| we_op <| we_var rfl <| we_c <| d_ixL (.own gP2) rfl <| d_seq (.own h12) <| wa_cons <| mk_Wait <| wa_nil <| d_app h12 (by rw [sizeLine_eq]; omega) ?_
      have sb9 := (sb.new (c := .lst []) w0).new (c := .lst (psD d os ++ [pD d .wait])) w1
      generalize wset (wset W2 a0 (.lst [])) a1 (.lst (psD d os ++ [pD d .wait])) = W9 at sb9 ⊢
      walk_at "mgo"
      refine w_ff (nB_f rfl) ?_
      walk_at "mgo"
      refine w_ff (nB_f rfl) ?_
      walk_at "mgo"
      have e1 : lenP (.tryy ps nm sl os) = 3 + lenPs ps + lenPs os := rfl
      have e2 : ndP (.tryy ps nm sl os) = 3 + max (ndPs ps) (ndPs os) := by simp only [ndP]
      refine ⟨_, _, _, rfl, .inl ⟨.tryy ps nm sl os, pD_tryy.symm, rfl, ?_, ⟨ok1, onm, osl, ok2⟩, by omega, by omega⟩, fz_id (sub_q sb9 k)⟩
      rw [if_pos (dB_t (by decide))]
      rw [e1]
      omega
theorem pure_law (T : TParts d) (TW : TWait d) (h : sp_law d vs H Q E) : t_law d { nx := fun _ H' => Q .non H', rt := Q } (start N_law vs) H := by
  refine law_pure h fun ns hns => ?_
  show WS d.K (t_law d) [some (.scr ns), none, none, none, none, none, none] _ _
  unfold t_law
  refine ws_seq <| ws_if <| we_not <| we_tB <| we_call <| wa_cons <| we_fz <| we_makeO fun x hx => fz_obj hx ?_
  walk_at "mgo"
  refine ⟨_, _, _, rfl, .inr ⟨rfl, rfl, rfl⟩, true, rfl, w_ff rfl <| ws_next ?_⟩
  unfold t_law_1
  walk_at "mgo"
  intro p hp
  refine fz_new hp ?_
  clear hp p
  walk_at "mgo"
  intro p hp
  refine fz_new hp ?_
  clear hp p
  rw [cutD_map]
  have lc := cutD_le ns none (some (40 : Int))
  generalize cutD ns none (some 40) = cu at lc ⊢
  refine d_catQ (.lst _) (.lst _) (by rw [List.length_map, sizeLine_eq]; show 9 + _ ≤ _; omega) fun R hR => ?_
  obtain ⟨cs, hcs, lcs⟩ : ∃ cs : List Int, [D.raw (.int 0), D.raw (.int 1), D.raw (.int 2), D.raw (.int 3), D.raw (.int 4), D.raw (.int 5), D.raw (.int 6), D.raw (.int 7), D.raw (.int 8)] ++ cu.map D.int = cs.map D.int ∧ cs.length ≤ 72 := ⟨[0, 1, 2, 3, 4, 5, 6, 7, 8] ++ cu, by rw [List.map_append]; rfl, by rw [List.length_append]; show 9 + _ ≤ _; omega⟩
  rw [hcs]
  have gR : wset W0 R (.lst (cs.map D.int)) R = some (.lst (cs.map D.int)) := ws_same
  generalize wset W0 R (.lst (cs.map D.int)) = W1 at gR ⊢
  refine wg_name (e' := [some (.scr ns), some (.ptr R), none, none, none, none, none]) rfl ?_
  unfold t_law_2
  refine ws_seq <| ws_for <| wi_rng1 <| wa_cons <| we_cb <| wa_cons <| we_var rfl <| wa_nil <| d_lenL (.own gR) <| wa_nil ?_
  rw [List.length_map]
  refine d_r1 (by omega) ?_
  refine ⟨fun i e W' => e = [some (.scr ns), some (.ptr R), none, none, none, none, none] ∧ W' = W1, nx_id ⟨rfl, rfl⟩, fun _ _ _ _ _ => trivial, ?_, ?_⟩
  · rintro j u e' W' hj hu ⟨rfl, rfl⟩
    cases hu
    have hj : j < ((cs.length : Nat) : Int).toNat := hj
    rw [show (0 + (j : Nat) * 1 : Int) = ((j : Nat) : Int) by omega]
    obtain ⟨v, hv⟩ : ∃ v, cs[j]? = some v := ⟨_, List.getElem?_eq_getElem (by omega)⟩
    refine wg_name (e' := [some (.scr ns), some (.ptr R), some (.raw (.int (j : Nat))), none, none, none, none]) rfl ?_
    refine ws_seq <| ws_asg <| we_op <| we_op <| we_var rfl <| we_var rfl <| d_ixL (.own gR) (atI_nat (by rw [List.getElem?_map, hv]; rfl)) ?_
    walk_at "mgo"
    generalize v % 10 ^ Int.toNat 60 = cv
    generalize hw : ((j : Nat) : Int) % 9 = w
    by_cases z : (5 : Int) < w
    · refine w_tt (dB_t z) ?_
      walk_at "mgo"
      refine ⟨w, cv, rfl, by omega, by omega, ?_⟩
      walk_at "mgo"
      exact nx_le (e' := [some (.scr ns), some (.ptr R), none, none, none, none, none]) (by walk_at "le") ⟨rfl, rfl⟩
    · refine w_ff (dB_f z) ?_
      obtain ⟨okp, plp⟩ := plF_ok w cv
      have l1 := plain_len1 plp
      have n1 := plain_nd1 plp
      refine ws_seq <| ws_asg <| we_call <| wa_cons <| we_var rfl <| wa_cons <| we_var rfl <| wa_nil ⟨w, cv, rfl, ?_⟩
      refine wg_tupL ⟨rfl, wgs_cons <| wg_name (e' := [some (.scr ns), some (.ptr R), some (.raw (.int (j : Nat))), some (.raw (.int cv)), some (.raw (.int w)), some (pD d (plF w cv)), none]) rfl <| wgs_cons <| wg_name (e' := [some (.scr ns), some (.ptr R), some (.raw (.int (j : Nat))), some (.raw (.int cv)), some (.raw (.int w)), some (pD d (plF w cv)), some (.raw (.str (wrP (plF w cv))))]) rfl <| wgs_nil ?_⟩
      refine ws_if <| we_or <| we_not <| we_tB <| we_call <| wa_cons <| we_var rfl <| wa_cons <| we_var rfl <| wa_cons <| we_var rfl <| wa_nil ⟨w, cv, rfl, true, rfl, w_ff rfl ?_⟩
      refine we_not <| we_tB <| we_call <| wa_cons <| we_var rfl <| wa_cons <| we_var rfl <| wa_cons <| we_c <| wa_nil ⟨_, _, _, rfl, .inl ⟨plF w cv, rfl, rfl, by rw [l1]; rfl, okp, by omega, by omega⟩, true, rfl, w_ff rfl <| ws_next ?_⟩
      exact nx_le (e' := [some (.scr ns), some (.ptr R), none, none, none, none, none]) (by walk_at "le") ⟨rfl, rfl⟩
  · rintro e' W' ⟨rfl, rfl⟩
    exact ws_ret <| we_c <| fz_id (sub_q (Sub.refl _) rfl)
end
end
end RT
set_option Elab.async false
set_option linter.all false
set_option maxRecDepth 100000
set_option maxHeartbeats 2000000
namespace Row
open PySem L2 RT
local macro_rules | `(tactic| walk_at "putf") => `(tactic| first | exact putF_nil | exact putF_hit | exact putF_miss (by decide) (by walk_at "putf"))
local macro_rules | `(tactic| walk_at "ne") => `(tactic| first | assumption | exact Ne.symm (by assumption) | ((refine' ne2 ?h1 ?h2); (case h1 => assumption); (case h2 => walk_at "hk")) | ((refine' ne2s ?h1 ?h2); (case h1 => assumption); (case h2 => walk_at "hk")) | exact ne_head (by assumption) | exact ne_of (by assumption) (by assumption) (by intro z; cases z))
local macro_rules | `(tactic| walk_at "hk") => `(tactic| first | assumption | with_reducible exact upd_same | ((with_reducible refine' up_ne ?h1 ?h2); (case h1 => walk_at "ne"); (case h2 => walk_at "hk")) | ((with_reducible refine' ex_at ?h1 ?h2); (case h1 => assumption); (case h2 => walk_at "hk")))
local macro_rules | `(tactic| walk_at "kit") => `(tactic| first | exact kit_int_int | exact kit_int_bool | exact kit_int_str | exact kit_int_list | exact kit_int_tuple | exact kit_int_dict | exact kit_bool_int | exact kit_bool_bool | exact kit_bool_str | exact kit_bool_list | exact kit_bool_tuple | exact kit_bool_dict | exact kit_str_int | exact kit_str_bool | exact kit_str_str | exact kit_str_list | exact kit_str_tuple | exact kit_str_dict | exact kit_NoneType_int | exact kit_NoneType_bool | exact kit_NoneType_str | exact kit_NoneType_list | exact kit_NoneType_tuple | exact kit_NoneType_dict | exact kit_list_int | exact kit_list_bool | exact kit_list_str | exact kit_list_list | exact kit_list_tuple | exact kit_list_dict | exact kit_tuple_int | exact kit_tuple_bool | exact kit_tuple_str | exact kit_tuple_list | exact kit_tuple_tuple | exact kit_tuple_dict | exact kit_dict_int | exact kit_dict_bool | exact kit_dict_str | exact kit_dict_list | exact kit_dict_tuple | exact kit_dict_dict)
local macro_rules | `(tactic| walk_at "sq") => `(tactic| first | assumption | ((with_reducible refine' SqL.of ?h); (case h => walk_at "hk")) | ((with_reducible refine' ex_sq ?h1 ?h2); (case h1 => assumption); (case h2 => walk_at "sq")))
local macro_rules | `(tactic| walk_at "st") => `(tactic| first | assumption | ((with_reducible refine' SqT.of ?h); (case h => walk_at "hk")) | ((with_reducible refine' ex_st ?h1 ?h2); (case h1 => assumption); (case h2 => walk_at "st")))
local macro_rules | `(tactic| walk_at "new") => `(tactic| (intro p hp; generalize hU : upd _ p _ = H'; have e1 := new_ex hp hU; have e2 := new_at hU; clear hU))
local macro_rules | `(tactic| walk_at "set") => `(tactic| ((try simp only [List.set_cons_succ, List.set_cons_zero]); rfl))
local macro_rules | `(tactic| walk_at "small") => `(tactic| first | assumption | (rw [sizeLine_eq]; (try simp only [List.length_cons, List.length_nil, str_len_app, sign_len]); omega) | (with_unfolding_all decide))
local macro_rules | `(tactic| walk_at "sc") => `(tactic| first | assumption | decide | omega | (unfold CMul; omega) | (unfold CDiv; omega) | (unfold CPow; decide) | (unfold CDiv; decide))
local macro_rules | `(tactic| walk_at "step") => `(tactic| first | ((with_reducible refine' w_sz ?h ?_); (case h => walk_at "small")) | fail)
local macro_rules | `(tactic| walk_at "step") => `(tactic| first | ((with_reducible refine' w_lenStr ?h ?_); (case h => walk_at "small")) | ((with_reducible refine' w_slS ?h ?_); (case h => walk_at "small")) | fail)
local macro_rules | `(tactic| walk_at "step") => `(tactic| first | ((with_reducible refine' w_ixL ?h1 ?h2 ?_); (case h1 => walk_at "sq"); (case h2 => rfl)) | ((with_reducible refine' w_ixT ?h1 ?h2 ?_); (case h1 => walk_at "st"); (case h2 => rfl)) | fail)
local macro_rules | `(tactic| walk_at "step") => `(tactic| first | with_reducible refine' w_ip ?_ | ((with_reducible refine' w_cat ?h1 ?h2 ?h3 ?_); (case h1 => walk_at "hk"); (case h2 => walk_at "hk"); (case h3 => walk_at "small")) | fail)
local macro_rules | `(tactic| walk_at "step") => `(tactic| first | ((with_reducible refine' w_slL ?h ?_); (case h => walk_at "sq")) | ((with_reducible refine' w_aug ?h ?_); (case h => rfl)) | fail)
local macro_rules | `(tactic| walk_at "step") => `(tactic| first | ((with_reducible refine' w_lenS ?h ?_); (case h => walk_at "sq")) | ((with_reducible refine' w_lenT ?h ?_); (case h => walk_at "st")) | fail)
local macro_rules | `(tactic| walk_at "step") => `(tactic| first | ((with_reducible refine' w_tt ?h ?_); (case h => first | exact dB_t (by decide) | exact nB_t (by decide) | decide)) | ((with_reducible refine' w_ff ?h ?_); (case h => first | exact dB_f (by decide) | exact nB_f (by decide) | decide)) | fail)
local macro_rules | `(tactic| walk_at "step") => `(tactic| first | with_reducible refine' w_ttL ?_ | with_reducible refine' w_ffL ?_ | fail)
local macro_rules | `(tactic| walk_at "step") => `(tactic| first | ((with_reducible refine' w_isiST ?h ?e ?_); (case h => walk_at "st"); (case e => walk_at "kit")) | ((with_reducible refine' w_i ?h ?_); (case h => walk_at "sc")) | fail)
local macro_rules | `(tactic| walk_at "step") => `(tactic| first | ((with_reducible refine' w_isiS ?h ?_); (case h => walk_at "kit")) | ((with_reducible refine' w_isiSL ?h ?e ?_); (case h => walk_at "sq"); (case e => walk_at "kit")) | fail)
local macro_rules | `(tactic| walk_at "step") => `(tactic| first | ((with_reducible refine' w_isiB ?h ?_); (case h => walk_at "kit")) | ((with_reducible refine' w_isiN ?h ?_); (case h => walk_at "kit")) | fail)
local macro_rules | `(tactic| walk_at "step") => `(tactic| first | with_reducible refine' w_make ?_ | ((with_reducible refine' w_isiI ?h ?_); (case h => walk_at "kit")) | fail)
local macro_rules | `(tactic| walk_at "step") => `(tactic| first | with_reducible refine' w_meth ?_ | ((with_reducible refine' w_meth1 ?h ?l ?_); (case h => walk_at "hk"); (case l => rfl)) | fail)
local macro_rules | `(tactic| walk_at "step") => `(tactic| first | with_reducible refine' w_min2 ?_ | with_reducible refine' w_tru ?_ | fail)
local macro_rules | `(tactic| walk_at "step") => `(tactic| first | with_reducible refine' w_v2 ?_ | with_reducible refine' w_max2 ?_ | fail)
local macro_rules | `(tactic| walk_at "step") => `(tactic| first | with_reducible refine' w_ninS ?_ | with_reducible refine' w_par ?_ | fail)
local macro_rules | `(tactic| walk_at "step") => `(tactic| first | ((with_reducible refine' w_addS ?h ?_); (case h => walk_at "small")) | with_reducible refine' w_inS ?_ | fail)
local macro_rules | `(tactic| walk_at "step") => `(tactic| first | with_reducible refine' w_gtS ?_ | with_reducible refine' w_geS ?_ | fail)
local macro_rules | `(tactic| walk_at "step") => `(tactic| first | with_reducible refine' w_ltS ?_ | with_reducible refine' w_leS ?_ | fail)
local macro_rules | `(tactic| walk_at "step") => `(tactic| first | with_reducible refine' w_gt ?_ | with_reducible refine' w_ge ?_ | fail)
local macro_rules | `(tactic| walk_at "step") => `(tactic| first | with_reducible refine' w_lt ?_ | with_reducible refine' w_le ?_ | fail)
local macro_rules | `(tactic| walk_at "step") => `(tactic| first | with_reducible refine' w_cont ?_ | with_reducible refine' w_chain ?_ | fail)
local macro_rules | `(tactic| walk_at "step") => `(tactic| first | with_reducible refine' w_retN ?_ | with_reducible refine' w_brk ?_ | fail)
local macro_rules | `(tactic| walk_at "step") => `(tactic| first | with_reducible refine' w_noPart ?_ | with_reducible refine' w_part ?_ | fail)
local macro_rules | `(tactic| walk_at "step") => `(tactic| first | with_reducible refine' w_dnew ?_ | with_reducible refine' w_sl ?_ | fail)
local macro_rules | `(tactic| walk_at "step") => `(tactic| first | with_reducible refine' w_tup ?_ | with_reducible refine' w_lst ?_ | fail)
local macro_rules | `(tactic| walk_at "step") => `(tactic| first | with_reducible refine' w_int1 ?_ | with_reducible refine' w_int1b ?_ | fail)
local macro_rules | `(tactic| walk_at "step") => `(tactic| first | with_reducible refine' w_notNS ?_ | with_reducible refine' w_notNR ?_ | fail)
local macro_rules | `(tactic| walk_at "step") => `(tactic| first | with_reducible refine' w_notNN ?_ | with_reducible refine' w_notNI ?_ | fail)
local macro_rules | `(tactic| walk_at "step") => `(tactic| first | with_reducible refine' w_isNS ?_ | with_reducible refine' w_isNR ?_ | fail)
local macro_rules | `(tactic| walk_at "step") => `(tactic| first | with_reducible refine' w_isNN ?_ | with_reducible refine' w_isNI ?_ | fail)
local macro_rules | `(tactic| walk_at "step") => `(tactic| first | with_reducible refine' w_un ?_ | with_reducible refine' w_u ?_ | fail)
local macro_rules | `(tactic| walk_at "step") => `(tactic| first | with_reducible refine' w_ifE ?_ | with_reducible refine' w_drop ?_ | fail)
local macro_rules | `(tactic| walk_at "step") => `(tactic| first | with_reducible refine' w_orV ?_ | with_reducible refine' w_notV ?_ | fail)
local macro_rules | `(tactic| walk_at "step") => `(tactic| first | with_reducible refine' w_not ?_ | with_reducible refine' w_andV ?_ | fail)
local macro_rules | `(tactic| walk_at "step") => `(tactic| first | with_reducible refine' w_and ?_ | with_reducible refine' w_or ?_ | fail)
local macro_rules | `(tactic| walk_at "step") => `(tactic| first | with_reducible refine' w_call ?_ | with_reducible refine' w_cb ?_ | fail)
local macro_rules | `(tactic| walk_at "step") => `(tactic| first | with_reducible refine' w_v2I ?_ | with_reducible refine' w_next ?_ | fail)
local macro_rules | `(tactic| walk_at "step") => `(tactic| first | with_reducible refine' w_iRng2 ?_ | with_reducible refine' w_v1I ?_ | fail)
local macro_rules | `(tactic| walk_at "step") => `(tactic| first | with_reducible refine' w_iStr ?_ | with_reducible refine' w_iRng1 ?_ | fail)
local macro_rules | `(tactic| walk_at "step") => `(tactic| first | with_reducible refine' w_iList ?_ | with_reducible refine' w_iTup ?_ | fail)
local macro_rules | `(tactic| walk_at "step") => `(tactic| first | with_reducible refine' w_isS ?_ | with_reducible refine' w_lc ?_ | fail)
local macro_rules | `(tactic| walk_at "step") => `(tactic| first | ((with_reducible refine' w_gTup ?h ?l ?_); (case h => walk_at "st"); (case l => rfl)) | with_reducible refine' w_m1 ?_ | fail)
local macro_rules | `(tactic| walk_at "step") => `(tactic| first | with_reducible refine' w_gCons ?_ | with_reducible refine' w_gNil ?_ | fail)
local macro_rules | `(tactic| walk_at "step") => `(tactic| first | with_reducible refine' w_iRng3 ?_ | with_reducible refine' w_iZip ?_ | fail)
local macro_rules | `(tactic| walk_at "step") => `(tactic| first | with_reducible refine' w_iItems ?_ | with_reducible refine' w_iKeys ?_ | fail)
local macro_rules | `(tactic| walk_at "step") => `(tactic| first | with_reducible refine' w_iRev ?_ | ((with_reducible refine' w_rev1 ?h ?_); (case h => walk_at "sq")) | fail)
local macro_rules | `(tactic| walk_at "step") => `(tactic| first | with_reducible refine' w_bm0 ?_ | ((with_reducible refine' w_tyL ?h ?_); (case h => walk_at "sq")) | fail)
local macro_rules | `(tactic| walk_at "step") => `(tactic| first | with_reducible refine' w_sDPut ?_ | with_reducible refine' w_bm ?_ | fail)
local macro_rules | `(tactic| walk_at "step") => `(tactic| first | with_reducible refine' w_tDNotIn ?_ | ((with_reducible refine' w_dinI ?h ?_); (case h => walk_at "hk")) | fail)
local macro_rules | `(tactic| walk_at "step") => `(tactic| first | with_reducible refine' w_tDGet ?_ | with_reducible refine' w_tDIn ?_ | fail)
local macro_rules | `(tactic| walk_at "step") => `(tactic| first | with_reducible refine' w_sFld ?_ | ((with_reducible refine' w_rsFld ?h ?c ?n ?l ?e ?_); (case h => walk_at "hk"); (case c => assumption); (case n => assumption); (case e => walk_at "putf"); (case l => (simp only [List.length_cons, List.length_nil]; omega))) | fail)
local macro_rules | `(tactic| walk_at "step") => `(tactic| first | with_reducible refine' w_tFld ?_ | ((with_reducible refine' w_fld ?h ?c ?n ?l ?_); (case h => walk_at "hk"); (case c => assumption); (case n => assumption); (case l => rfl)) | fail)
local macro_rules | `(tactic| walk_at "step") => `(tactic| first | with_reducible refine' w_ret ?_ | with_reducible refine' w_for ?_ | fail)
local macro_rules | `(tactic| walk_at "step") => `(tactic| first | with_reducible refine' w_eqS ?_ | with_reducible refine' w_neS ?_ | fail)
local macro_rules | `(tactic| walk_at "step") => `(tactic| first | with_reducible refine' w_eqI ?_ | with_reducible refine' w_neI ?_ | fail)
local macro_rules | `(tactic| walk_at "step") => `(tactic| first | with_reducible refine' w_ref ?_ | with_reducible refine' w_str ?_ | fail)
local macro_rules | `(tactic| walk_at "step") => `(tactic| first | with_reducible refine' w_bl ?_ | with_reducible refine' w_int ?_ | fail)
local macro_rules | `(tactic| walk_at "step") => `(tactic| first | with_reducible refine' w_test ?_ | with_reducible refine' w_tB ?_ | fail)
local macro_rules | `(tactic| walk_at "step") => `(tactic| first | ((with_reducible refine' w_gn ?e ?_); (case e => walk_at "set")) | with_reducible refine' w_ifS ?_ | fail)
local macro_rules | `(tactic| walk_at "step") => `(tactic| first | with_reducible refine' w_nil ?_ | with_reducible refine' w_asg ?_ | fail)
local macro_rules | `(tactic| walk_at "step") => `(tactic| first | with_reducible refine' w_i0 ?_ | with_reducible refine' w_cons ?_ | fail)
local macro_rules | `(tactic| walk_at "step") => `(tactic| first | ((with_reducible refine' w_var ?h ?_); (case h => rfl)) | with_reducible refine' w_c ?_ | fail)
local macro_rules | `(tactic| walk_at "step") => `(tactic| first | with_reducible refine' w_seq ?_ | with_reducible refine' w_op ?_ | fail)
local macro_rules | `(tactic| walk_at "go") => `(tactic| (repeat (first | walk_at "step" | walk_at "callx")))
local macro_rules | `(tactic| walk_at "goN") => `(tactic| (repeat (first | walk_at "step" | walk_at "callx" | ((with_reducible show ∀ p, _ = none → _); walk_at "new"))))
local macro_rules | `(tactic| walk_at "len") => `(tactic| first
  | (obtain ⟨rfl, _⟩ := h; rfl) | (obtain ⟨_, rfl, _⟩ := h; rfl) | (obtain ⟨_, _, rfl, _⟩ := h; rfl) | (obtain ⟨_, _, _, rfl, _⟩ := h; rfl) | (obtain ⟨_, _, _, _, rfl, _⟩ := h; rfl)
  | (obtain ⟨_, _, _, _, _, rfl, _⟩ := h; rfl) | (obtain ⟨_, _, _, _, _, _, rfl, _⟩ := h; rfl) | (obtain ⟨_, _, _, _, _, _, _, rfl, _⟩ := h; rfl) | (obtain ⟨_, _, _, _, _, _, _, _, rfl, _⟩ := h; rfl)
  | (obtain ⟨_, _, _, _, _, _, _, _, _, rfl, _⟩ := h; rfl) | (obtain ⟨_, _, _, _, _, _, _, _, _, _, rfl, _⟩ := h; rfl))
local macro_rules | `(tactic| walk_at "dec") => `(tactic| (first | with_reducible apply w_dec | with_reducible apply w_ndec | with_reducible apply w_bool) <;> intro hc)
def top (i : Nat) : Stmt := PySem.Challenge.pw_retryhall_k04_parts_shown_and_long.main.body.getD i (.Pass ⟨0, 0, 0, 0⟩)
abbrev s_Let_init : Stmt := inClass (top 5) 0
abbrev NR_Let_init : List Str := ["self", "slot", "number"]
theorem sc_Let_init : FnScope NR_Let_init ["self", "slot", "number"] (defScope s_Let_init) := ⟨rfl, rfl, rfl, by decide +kernel, rfl, by decide +kernel, by decide +kernel⟩
abbrev s_Reckon_init : Stmt := inClass (top 6) 0
abbrev NR_Reckon_init : List Str := ["self", "word", "slot", "one", "other"]
theorem sc_Reckon_init : FnScope NR_Reckon_init ["self", "word", "slot", "one", "other"] (defScope s_Reckon_init) := ⟨rfl, rfl, rfl, by decide +kernel, rfl, by decide +kernel, by decide +kernel⟩
abbrev s_Take_init : Stmt := inClass (top 7) 0
abbrev NR_Take_init : List Str := ["self", "slot", "place"]
theorem sc_Take_init : FnScope NR_Take_init ["self", "slot", "place"] (defScope s_Take_init) := ⟨rfl, rfl, rfl, by decide +kernel, rfl, by decide +kernel, by decide +kernel⟩
abbrev s_Put_init : Stmt := inClass (top 8) 0
abbrev NR_Put_init : List Str := ["self", "place", "slot"]
theorem sc_Put_init : FnScope NR_Put_init ["self", "place", "slot"] (defScope s_Put_init) := ⟨rfl, rfl, rfl, by decide +kernel, rfl, by decide +kernel, by decide +kernel⟩
abbrev s_If_init : Stmt := inClass (top 9) 0
abbrev NR_If_init : List Str := ["self", "slot", "parts", "others"]
theorem sc_If_init : FnScope NR_If_init ["self", "slot", "parts", "others"] (defScope s_If_init) := ⟨rfl, rfl, rfl, by decide +kernel, rfl, by decide +kernel, by decide +kernel⟩
abbrev s_Either_init : Stmt := inClass (top 10) 0
abbrev NR_Either_init : List Str := ["self", "parts", "others"]
theorem sc_Either_init : FnScope NR_Either_init ["self", "parts", "others"] (defScope s_Either_init) := ⟨rfl, rfl, rfl, by decide +kernel, rfl, by decide +kernel, by decide +kernel⟩
abbrev s_Try_init : Stmt := inClass (top 11) 0
abbrev NR_Try_init : List Str := ["self", "parts", "name", "slot", "others"]
theorem sc_Try_init : FnScope NR_Try_init ["self", "parts", "name", "slot", "others"] (defScope s_Try_init) := ⟨rfl, rfl, rfl, by decide +kernel, rfl, by decide +kernel, by decide +kernel⟩
abbrev s_Throw_init : Stmt := inClass (top 12) 0
abbrev NR_Throw_init : List Str := ["self", "name", "slot"]
theorem sc_Throw_init : FnScope NR_Throw_init ["self", "name", "slot"] (defScope s_Throw_init) := ⟨rfl, rfl, rfl, by decide +kernel, rfl, by decide +kernel, by decide +kernel⟩
abbrev s_Let_long : Stmt := inClass (top 5) 2
abbrev NR_Let_long : List Str := ["self"]
theorem sc_Let_long : FnScope NR_Let_long ["self"] (defScope s_Let_long) := ⟨rfl, rfl, rfl, by decide +kernel, rfl, by decide +kernel, by decide +kernel⟩
abbrev s_Reckon_long : Stmt := inClass (top 6) 2
abbrev NR_Reckon_long : List Str := ["self"]
theorem sc_Reckon_long : FnScope NR_Reckon_long ["self"] (defScope s_Reckon_long) := ⟨rfl, rfl, rfl, by decide +kernel, rfl, by decide +kernel, by decide +kernel⟩
abbrev s_Take_long : Stmt := inClass (top 7) 2
abbrev NR_Take_long : List Str := ["self"]
theorem sc_Take_long : FnScope NR_Take_long ["self"] (defScope s_Take_long) := ⟨rfl, rfl, rfl, by decide +kernel, rfl, by decide +kernel, by decide +kernel⟩
abbrev s_Put_long : Stmt := inClass (top 8) 2
abbrev NR_Put_long : List Str := ["self"]
theorem sc_Put_long : FnScope NR_Put_long ["self"] (defScope s_Put_long) := ⟨rfl, rfl, rfl, by decide +kernel, rfl, by decide +kernel, by decide +kernel⟩
abbrev s_Throw_long : Stmt := inClass (top 12) 2
abbrev NR_Throw_long : List Str := ["self"]
theorem sc_Throw_long : FnScope NR_Throw_long ["self"] (defScope s_Throw_long) := ⟨rfl, rfl, rfl, by decide +kernel, rfl, by decide +kernel, by decide +kernel⟩
abbrev s_Wait_long : Stmt := inClass (top 13) 1
abbrev NR_Wait_long : List Str := ["self"]
theorem sc_Wait_long : FnScope NR_Wait_long ["self"] (defScope s_Wait_long) := ⟨rfl, rfl, rfl, by decide +kernel, rfl, by decide +kernel, by decide +kernel⟩
abbrev s_list_long : Stmt := top 3
abbrev NR_list_long : List Str := ["parts", "part"]
theorem sc_list_long : FnScope NR_list_long ["parts"] (defScope s_list_long) := ⟨rfl, rfl, rfl, by decide +kernel, rfl, by decide +kernel, by decide +kernel⟩
abbrev s_If_long : Stmt := inClass (top 9) 2
abbrev NR_If_long : List Str := ["self"]
theorem sc_If_long : FnScope NR_If_long ["self"] (defScope s_If_long) := ⟨rfl, rfl, rfl, by decide +kernel, rfl, by decide +kernel, by decide +kernel⟩
abbrev s_Either_long : Stmt := inClass (top 10) 2
abbrev NR_Either_long : List Str := ["self"]
theorem sc_Either_long : FnScope NR_Either_long ["self"] (defScope s_Either_long) := ⟨rfl, rfl, rfl, by decide +kernel, rfl, by decide +kernel, by decide +kernel⟩
abbrev s_Try_long : Stmt := inClass (top 11) 2
abbrev NR_Try_long : List Str := ["self"]
theorem sc_Try_long : FnScope NR_Try_long ["self"] (defScope s_Try_long) := ⟨rfl, rfl, rfl, by decide +kernel, rfl, by decide +kernel, by decide +kernel⟩
abbrev s_Let_shown : Stmt := inClass (top 5) 1
abbrev NR_Let_shown : List Str := ["self"]
theorem sc_Let_shown : FnScope NR_Let_shown ["self"] (defScope s_Let_shown) := ⟨rfl, rfl, rfl, by decide +kernel, rfl, by decide +kernel, by decide +kernel⟩
abbrev s_Reckon_shown : Stmt := inClass (top 6) 1
abbrev NR_Reckon_shown : List Str := ["self"]
theorem sc_Reckon_shown : FnScope NR_Reckon_shown ["self"] (defScope s_Reckon_shown) := ⟨rfl, rfl, rfl, by decide +kernel, rfl, by decide +kernel, by decide +kernel⟩
abbrev s_Take_shown : Stmt := inClass (top 7) 1
abbrev NR_Take_shown : List Str := ["self"]
theorem sc_Take_shown : FnScope NR_Take_shown ["self"] (defScope s_Take_shown) := ⟨rfl, rfl, rfl, by decide +kernel, rfl, by decide +kernel, by decide +kernel⟩
abbrev s_Put_shown : Stmt := inClass (top 8) 1
abbrev NR_Put_shown : List Str := ["self"]
theorem sc_Put_shown : FnScope NR_Put_shown ["self"] (defScope s_Put_shown) := ⟨rfl, rfl, rfl, by decide +kernel, rfl, by decide +kernel, by decide +kernel⟩
abbrev s_Throw_shown : Stmt := inClass (top 12) 1
abbrev NR_Throw_shown : List Str := ["self"]
theorem sc_Throw_shown : FnScope NR_Throw_shown ["self"] (defScope s_Throw_shown) := ⟨rfl, rfl, rfl, by decide +kernel, rfl, by decide +kernel, by decide +kernel⟩
abbrev s_Wait_shown : Stmt := inClass (top 13) 0
abbrev NR_Wait_shown : List Str := ["self"]
theorem sc_Wait_shown : FnScope NR_Wait_shown ["self"] (defScope s_Wait_shown) := ⟨rfl, rfl, rfl, by decide +kernel, rfl, by decide +kernel, by decide +kernel⟩
abbrev s_list_shown : Stmt := top 2
abbrev NR_list_shown : List Str := ["parts", "part"]
theorem sc_list_shown : FnScope NR_list_shown ["parts"] (defScope s_list_shown) := ⟨rfl, rfl, rfl, by decide +kernel, rfl, by decide +kernel, by decide +kernel⟩
abbrev s_bracketed : Stmt := top 4
abbrev NR_bracketed : List Str := ["parts", "words"]
theorem sc_bracketed : FnScope NR_bracketed ["parts"] (defScope s_bracketed) := ⟨rfl, rfl, rfl, by decide +kernel, rfl, by decide +kernel, by decide +kernel⟩
abbrev s_If_shown : Stmt := inClass (top 9) 1
abbrev NR_If_shown : List Str := ["self"]
theorem sc_If_shown : FnScope NR_If_shown ["self"] (defScope s_If_shown) := ⟨rfl, rfl, rfl, by decide +kernel, rfl, by decide +kernel, by decide +kernel⟩
abbrev s_Either_shown : Stmt := inClass (top 10) 1
abbrev NR_Either_shown : List Str := ["self"]
theorem sc_Either_shown : FnScope NR_Either_shown ["self"] (defScope s_Either_shown) := ⟨rfl, rfl, rfl, by decide +kernel, rfl, by decide +kernel, by decide +kernel⟩
abbrev s_Try_shown : Stmt := inClass (top 11) 1
abbrev NR_Try_shown : List Str := ["self", "words"]
theorem sc_Try_shown : FnScope NR_Try_shown ["self"] (defScope s_Try_shown) := ⟨rfl, rfl, rfl, by decide +kernel, rfl, by decide +kernel, by decide +kernel⟩
abbrev s_Part_shown : Stmt := inClass (top 1) 0
abbrev NR_Part_shown : List Str := ["self"]
theorem sc_Part_shown : FnScope NR_Part_shown ["self"] (defScope s_Part_shown) := ⟨rfl, rfl, rfl, by decide +kernel, rfl, by decide +kernel, by decide +kernel⟩
abbrev s_Part_long : Stmt := inClass (top 1) 1
abbrev NR_Part_long : List Str := ["self"]
theorem sc_Part_long : FnScope NR_Part_long ["self"] (defScope s_Part_long) := ⟨rfl, rfl, rfl, by decide +kernel, rfl, by decide +kernel, by decide +kernel⟩
abbrev s_z_whole : Stmt := top 15
abbrev NR_z_whole : List Str := ["_law_found"]
theorem sc_z_whole : FnScope NR_z_whole ["_law_found"] (defScope s_z_whole) := ⟨rfl, rfl, rfl, by decide +kernel, rfl, by decide +kernel, by decide +kernel⟩
abbrev s_z_name : Stmt := top 16
abbrev NR_z_name : List Str := ["_law_cell", "_law_letters", "_law_size", "_law_at", "_law_name_here", "_law_k", "_law_sign"]
theorem sc_z_name : FnScope NR_z_name ["_law_cell"] (defScope s_z_name) := ⟨rfl, rfl, rfl, by decide +kernel, rfl, by decide +kernel, by decide +kernel⟩
abbrev s_z_slot : Stmt := top 17
abbrev NR_z_slot : List Str := ["_law_number_here"]
theorem sc_z_slot : FnScope NR_z_slot ["_law_number_here"] (defScope s_z_slot) := ⟨rfl, rfl, rfl, by decide +kernel, rfl, by decide +kernel, by decide +kernel⟩
abbrev s_z_number : Stmt := top 18
abbrev NR_z_number : List Str := ["_law_cell"]
theorem sc_z_number : FnScope NR_z_number ["_law_cell"] (defScope s_z_number) := ⟨rfl, rfl, rfl, by decide +kernel, rfl, by decide +kernel, by decide +kernel⟩
abbrev s_z_plain_pair : Stmt := top 19
abbrev NR_z_plain_pair : List Str := ["_law_way", "_law_cell", "_law_mixed", "_law_one", "_law_other", "_law_number_here", "_law_name_here", "_law_word", "_law_third"]
theorem sc_z_plain_pair : FnScope NR_z_plain_pair ["_law_way", "_law_cell"] (defScope s_z_plain_pair) := ⟨rfl, rfl, rfl, by decide +kernel, rfl, by decide +kernel, by decide +kernel⟩
abbrev s_z_plain_right : Stmt := top 20
abbrev NR_z_plain_right : List Str := ["_law_part", "_law_way", "_law_cell", "_law_mixed", "_law_one", "_law_other", "_law_third", "_law_word", "_law_due"]
theorem sc_z_plain_right : FnScope NR_z_plain_right ["_law_part", "_law_way", "_law_cell"] (defScope s_z_plain_right) := ⟨rfl, rfl, rfl, by decide +kernel, rfl, by decide +kernel, by decide +kernel⟩
abbrev s_z_shows : Stmt := top 21
abbrev NR_z_shows : List Str := ["_law_part", "_law_text", "_law_many", "_law_found", "_law_long"]
theorem sc_z_shows : FnScope NR_z_shows ["_law_part", "_law_text", "_law_many"] (defScope s_z_shows) := ⟨rfl, rfl, rfl, by decide +kernel, rfl, by decide +kernel, by decide +kernel⟩
abbrev s_z_side : Stmt := top 22
abbrev NR_z_side : List Str := ["_law_cell", "_law_pairs", "_law_k", "_law_words", "_law_pair"]
theorem sc_z_side : FnScope NR_z_side ["_law_cell"] (defScope s_z_side) := ⟨rfl, rfl, rfl, by decide +kernel, rfl, by decide +kernel, by decide +kernel⟩
abbrev s_z_sided : Stmt := top 23
abbrev NR_z_sided : List Str := ["_law_way", "_law_cell", "_law_parts", "_law_one", "_law_others", "_law_other", "_law_handed", "_law_slot_here", "_law_name_here", "_law_part", "_law_text", "_law_good"]
theorem sc_z_sided : FnScope NR_z_sided ["_law_way", "_law_cell"] (defScope s_z_sided) := ⟨rfl, rfl, rfl, by decide +kernel, rfl, by decide +kernel, by decide +kernel⟩
abbrev s_law : Stmt := top 24
abbrev NR_law : List Str := ["_law_script", "_law_cells", "_law_k", "_law_cell", "_law_way", "_law_part", "_law_text"]
theorem sc_law : FnScope NR_law ["_law_script"] (defScope s_law) := ⟨rfl, rfl, rfl, by decide +kernel, rfl, by decide +kernel, by decide +kernel⟩
structure Fs where
  f_Let_init : Addr
  d_Let_init : FuncData
  f_Reckon_init : Addr
  d_Reckon_init : FuncData
  f_Take_init : Addr
  d_Take_init : FuncData
  f_Put_init : Addr
  d_Put_init : FuncData
  f_If_init : Addr
  d_If_init : FuncData
  f_Either_init : Addr
  d_Either_init : FuncData
  f_Try_init : Addr
  d_Try_init : FuncData
  f_Throw_init : Addr
  d_Throw_init : FuncData
  f_Let_long : Addr
  d_Let_long : FuncData
  f_Reckon_long : Addr
  d_Reckon_long : FuncData
  f_Take_long : Addr
  d_Take_long : FuncData
  f_Put_long : Addr
  d_Put_long : FuncData
  f_Throw_long : Addr
  d_Throw_long : FuncData
  f_Wait_long : Addr
  d_Wait_long : FuncData
  f_list_long : Addr
  d_list_long : FuncData
  f_If_long : Addr
  d_If_long : FuncData
  f_Either_long : Addr
  d_Either_long : FuncData
  f_Try_long : Addr
  d_Try_long : FuncData
  f_Let_shown : Addr
  d_Let_shown : FuncData
  f_Reckon_shown : Addr
  d_Reckon_shown : FuncData
  f_Take_shown : Addr
  d_Take_shown : FuncData
  f_Put_shown : Addr
  d_Put_shown : FuncData
  f_Throw_shown : Addr
  d_Throw_shown : FuncData
  f_Wait_shown : Addr
  d_Wait_shown : FuncData
  f_list_shown : Addr
  d_list_shown : FuncData
  f_bracketed : Addr
  d_bracketed : FuncData
  f_If_shown : Addr
  d_If_shown : FuncData
  f_Either_shown : Addr
  d_Either_shown : FuncData
  f_Try_shown : Addr
  d_Try_shown : FuncData
  f_Part_shown : Addr
  d_Part_shown : FuncData
  f_Part_long : Addr
  d_Part_long : FuncData
  f_z_whole : Addr
  d_z_whole : FuncData
  f_z_name : Addr
  d_z_name : FuncData
  f_z_slot : Addr
  d_z_slot : FuncData
  f_z_number : Addr
  d_z_number : FuncData
  f_z_plain_pair : Addr
  d_z_plain_pair : FuncData
  f_z_plain_right : Addr
  d_z_plain_right : FuncData
  f_z_shows : Addr
  d_z_shows : FuncData
  f_z_side : Addr
  d_z_side : FuncData
  f_z_sided : Addr
  d_z_sided : FuncData
  f_law : Addr
  d_law : FuncData
structure Txt (d : Ad) (mg : Str → Option Value) (z : Fs) : Prop where
  F_Let_init : Fun d.K "__init__" "Let.__init__" s_Let_init z.f_Let_init z.d_Let_init
  B_Let_init : Binds d.K z.d_Let_init ["self", "slot", "number"] []
  K_Let : Mk d.K d.cLet z.f_Let_init
  F_Reckon_init : Fun d.K "__init__" "Reckon.__init__" s_Reckon_init z.f_Reckon_init z.d_Reckon_init
  B_Reckon_init : Binds d.K z.d_Reckon_init ["self", "word", "slot", "one", "other"] []
  K_Reckon : Mk d.K d.cReckon z.f_Reckon_init
  F_Take_init : Fun d.K "__init__" "Take.__init__" s_Take_init z.f_Take_init z.d_Take_init
  B_Take_init : Binds d.K z.d_Take_init ["self", "slot", "place"] []
  K_Take : Mk d.K d.cTake z.f_Take_init
  F_Put_init : Fun d.K "__init__" "Put.__init__" s_Put_init z.f_Put_init z.d_Put_init
  B_Put_init : Binds d.K z.d_Put_init ["self", "place", "slot"] []
  K_Put : Mk d.K d.cPut z.f_Put_init
  F_If_init : Fun d.K "__init__" "If.__init__" s_If_init z.f_If_init z.d_If_init
  B_If_init : Binds d.K z.d_If_init ["self", "slot", "parts", "others"] []
  K_If : Mk d.K d.cIf z.f_If_init
  F_Either_init : Fun d.K "__init__" "Either.__init__" s_Either_init z.f_Either_init z.d_Either_init
  B_Either_init : Binds d.K z.d_Either_init ["self", "parts", "others"] []
  K_Either : Mk d.K d.cEither z.f_Either_init
  F_Try_init : Fun d.K "__init__" "Try.__init__" s_Try_init z.f_Try_init z.d_Try_init
  B_Try_init : Binds d.K z.d_Try_init ["self", "parts", "name", "slot", "others"] []
  K_Try : Mk d.K d.cTry z.f_Try_init
  F_Throw_init : Fun d.K "__init__" "Throw.__init__" s_Throw_init z.f_Throw_init z.d_Throw_init
  B_Throw_init : Binds d.K z.d_Throw_init ["self", "name", "slot"] []
  K_Throw : Mk d.K d.cThrow z.f_Throw_init
  F_Let_long : Fun d.K "long" "Let.long" s_Let_long z.f_Let_long z.d_Let_long
  B_Let_long : Binds d.K z.d_Let_long ["self"] []
  M_Let_long : Meth d.K d.cLet "long" z.f_Let_long
  F_Reckon_long : Fun d.K "long" "Reckon.long" s_Reckon_long z.f_Reckon_long z.d_Reckon_long
  B_Reckon_long : Binds d.K z.d_Reckon_long ["self"] []
  M_Reckon_long : Meth d.K d.cReckon "long" z.f_Reckon_long
  F_Take_long : Fun d.K "long" "Take.long" s_Take_long z.f_Take_long z.d_Take_long
  B_Take_long : Binds d.K z.d_Take_long ["self"] []
  M_Take_long : Meth d.K d.cTake "long" z.f_Take_long
  F_Put_long : Fun d.K "long" "Put.long" s_Put_long z.f_Put_long z.d_Put_long
  B_Put_long : Binds d.K z.d_Put_long ["self"] []
  M_Put_long : Meth d.K d.cPut "long" z.f_Put_long
  F_Throw_long : Fun d.K "long" "Throw.long" s_Throw_long z.f_Throw_long z.d_Throw_long
  B_Throw_long : Binds d.K z.d_Throw_long ["self"] []
  M_Throw_long : Meth d.K d.cThrow "long" z.f_Throw_long
  F_Wait_long : Fun d.K "long" "Wait.long" s_Wait_long z.f_Wait_long z.d_Wait_long
  B_Wait_long : Binds d.K z.d_Wait_long ["self"] []
  M_Wait_long : Meth d.K d.cWait "long" z.f_Wait_long
  F_list_long : Fun d.K "list_long" "list_long" s_list_long z.f_list_long z.d_list_long
  B_list_long : Binds d.K z.d_list_long ["parts"] []
  m_list_long : mg "list_long" = some (.ref z.f_list_long)
  F_If_long : Fun d.K "long" "If.long" s_If_long z.f_If_long z.d_If_long
  B_If_long : Binds d.K z.d_If_long ["self"] []
  M_If_long : Meth d.K d.cIf "long" z.f_If_long
  F_Either_long : Fun d.K "long" "Either.long" s_Either_long z.f_Either_long z.d_Either_long
  B_Either_long : Binds d.K z.d_Either_long ["self"] []
  M_Either_long : Meth d.K d.cEither "long" z.f_Either_long
  F_Try_long : Fun d.K "long" "Try.long" s_Try_long z.f_Try_long z.d_Try_long
  B_Try_long : Binds d.K z.d_Try_long ["self"] []
  M_Try_long : Meth d.K d.cTry "long" z.f_Try_long
  F_Let_shown : Fun d.K "shown" "Let.shown" s_Let_shown z.f_Let_shown z.d_Let_shown
  B_Let_shown : Binds d.K z.d_Let_shown ["self"] []
  M_Let_shown : Meth d.K d.cLet "shown" z.f_Let_shown
  F_Reckon_shown : Fun d.K "shown" "Reckon.shown" s_Reckon_shown z.f_Reckon_shown z.d_Reckon_shown
  B_Reckon_shown : Binds d.K z.d_Reckon_shown ["self"] []
  M_Reckon_shown : Meth d.K d.cReckon "shown" z.f_Reckon_shown
  F_Take_shown : Fun d.K "shown" "Take.shown" s_Take_shown z.f_Take_shown z.d_Take_shown
  B_Take_shown : Binds d.K z.d_Take_shown ["self"] []
  M_Take_shown : Meth d.K d.cTake "shown" z.f_Take_shown
  F_Put_shown : Fun d.K "shown" "Put.shown" s_Put_shown z.f_Put_shown z.d_Put_shown
  B_Put_shown : Binds d.K z.d_Put_shown ["self"] []
  M_Put_shown : Meth d.K d.cPut "shown" z.f_Put_shown
  F_Throw_shown : Fun d.K "shown" "Throw.shown" s_Throw_shown z.f_Throw_shown z.d_Throw_shown
  B_Throw_shown : Binds d.K z.d_Throw_shown ["self"] []
  M_Throw_shown : Meth d.K d.cThrow "shown" z.f_Throw_shown
  F_Wait_shown : Fun d.K "shown" "Wait.shown" s_Wait_shown z.f_Wait_shown z.d_Wait_shown
  B_Wait_shown : Binds d.K z.d_Wait_shown ["self"] []
  M_Wait_shown : Meth d.K d.cWait "shown" z.f_Wait_shown
  F_list_shown : Fun d.K "list_shown" "list_shown" s_list_shown z.f_list_shown z.d_list_shown
  B_list_shown : Binds d.K z.d_list_shown ["parts"] []
  m_list_shown : mg "list_shown" = some (.ref z.f_list_shown)
  F_bracketed : Fun d.K "bracketed" "bracketed" s_bracketed z.f_bracketed z.d_bracketed
  B_bracketed : Binds d.K z.d_bracketed ["parts"] []
  m_bracketed : mg "bracketed" = some (.ref z.f_bracketed)
  F_If_shown : Fun d.K "shown" "If.shown" s_If_shown z.f_If_shown z.d_If_shown
  B_If_shown : Binds d.K z.d_If_shown ["self"] []
  M_If_shown : Meth d.K d.cIf "shown" z.f_If_shown
  F_Either_shown : Fun d.K "shown" "Either.shown" s_Either_shown z.f_Either_shown z.d_Either_shown
  B_Either_shown : Binds d.K z.d_Either_shown ["self"] []
  M_Either_shown : Meth d.K d.cEither "shown" z.f_Either_shown
  F_Try_shown : Fun d.K "shown" "Try.shown" s_Try_shown z.f_Try_shown z.d_Try_shown
  B_Try_shown : Binds d.K z.d_Try_shown ["self"] []
  M_Try_shown : Meth d.K d.cTry "shown" z.f_Try_shown
  F_Part_shown : Fun d.K "shown" "Part.shown" s_Part_shown z.f_Part_shown z.d_Part_shown
  B_Part_shown : Binds d.K z.d_Part_shown ["self"] []
  M_Part_shown : Meth d.K d.cPart "shown" z.f_Part_shown
  F_Part_long : Fun d.K "long" "Part.long" s_Part_long z.f_Part_long z.d_Part_long
  B_Part_long : Binds d.K z.d_Part_long ["self"] []
  M_Part_long : Meth d.K d.cPart "long" z.f_Part_long
  F_z_whole : Fun d.K "_law_whole" "_law_whole" s_z_whole z.f_z_whole z.d_z_whole
  B_z_whole : Binds d.K z.d_z_whole ["_law_found"] []
  m_z_whole : mg "_law_whole" = some (.ref z.f_z_whole)
  F_z_name : Fun d.K "_law_name" "_law_name" s_z_name z.f_z_name z.d_z_name
  B_z_name : Binds d.K z.d_z_name ["_law_cell"] []
  m_z_name : mg "_law_name" = some (.ref z.f_z_name)
  F_z_slot : Fun d.K "_law_slot" "_law_slot" s_z_slot z.f_z_slot z.d_z_slot
  B_z_slot : Binds d.K z.d_z_slot ["_law_number_here"] []
  m_z_slot : mg "_law_slot" = some (.ref z.f_z_slot)
  F_z_number : Fun d.K "_law_number" "_law_number" s_z_number z.f_z_number z.d_z_number
  B_z_number : Binds d.K z.d_z_number ["_law_cell"] []
  m_z_number : mg "_law_number" = some (.ref z.f_z_number)
  F_z_plain_pair : Fun d.K "_law_plain_pair" "_law_plain_pair" s_z_plain_pair z.f_z_plain_pair z.d_z_plain_pair
  B_z_plain_pair : Binds d.K z.d_z_plain_pair ["_law_way", "_law_cell"] []
  m_z_plain_pair : mg "_law_plain_pair" = some (.ref z.f_z_plain_pair)
  F_z_plain_right : Fun d.K "_law_plain_right" "_law_plain_right" s_z_plain_right z.f_z_plain_right z.d_z_plain_right
  B_z_plain_right : Binds d.K z.d_z_plain_right ["_law_part", "_law_way", "_law_cell"] []
  m_z_plain_right : mg "_law_plain_right" = some (.ref z.f_z_plain_right)
  F_z_shows : Fun d.K "_law_shows" "_law_shows" s_z_shows z.f_z_shows z.d_z_shows
  B_z_shows : Binds d.K z.d_z_shows ["_law_part", "_law_text", "_law_many"] []
  m_z_shows : mg "_law_shows" = some (.ref z.f_z_shows)
  F_z_side : Fun d.K "_law_side" "_law_side" s_z_side z.f_z_side z.d_z_side
  B_z_side : Binds d.K z.d_z_side ["_law_cell"] []
  m_z_side : mg "_law_side" = some (.ref z.f_z_side)
  F_z_sided : Fun d.K "_law_sided" "_law_sided" s_z_sided z.f_z_sided z.d_z_sided
  B_z_sided : Binds d.K z.d_z_sided ["_law_way", "_law_cell"] []
  m_z_sided : mg "_law_sided" = some (.ref z.f_z_sided)
  F_law : Fun d.K "law" "law" s_law z.f_law z.d_law
  B_law : Binds d.K z.d_law ["_law_script"] []
  m_law : mg "law" = some (.ref z.f_law)
  b_bool : mg "bool" = none
  b_int : mg "int" = none
  b_isinstance : mg "isinstance" = none
  b_len : mg "len" = none
  b_list : mg "list" = none
  b_range : mg "range" = none
  b_str : mg "str" = none
  b_sum : mg "sum" = none
  g_Let : mg "Let" = some (.ref d.cLet)
  g_Reckon : mg "Reckon" = some (.ref d.cReckon)
  g_Take : mg "Take" = some (.ref d.cTake)
  g_Put : mg "Put" = some (.ref d.cPut)
  g_If : mg "If" = some (.ref d.cIf)
  g_Either : mg "Either" = some (.ref d.cEither)
  g_Try : mg "Try" = some (.ref d.cTry)
  g_Throw : mg "Throw" = some (.ref d.cThrow)
  g_Wait : mg "Wait" = some (.ref d.cWait)
  MO_Wait : MkO d.K d.cWait
  g_Part : mg "Part" = some (.ref d.cPart)
  MO_Part : MkO d.K d.cPart
  t_Parts : TParts d
  t_PW : TWait d
  t_PP : TPart d
  t_PO : TPartO d
section
variable {P : Program} {w : World} {mg : Str → Option Value} {base : Heap} {d : Ad} {z : Fs}
theorem ok_Let_init (T : Txt d mg z) : FnOk P w d.K mg base CX0 1 z.f_Let_init z.d_Let_init ["self", "slot", "number"] (sp_Let_init d) := by
  refine T.F_Let_init.ok sc_Let_init (fun vs H Q E h => by first | (exact lift_len (fun ds W Q h => by first | (obtain ⟨rfl, _⟩ := h; rfl) | (obtain ⟨_, rfl, _⟩ := h; rfl) | (obtain ⟨_, _, rfl, _⟩ := h; rfl) | (obtain ⟨_, _, _, rfl, _⟩ := h; rfl) | (obtain ⟨_, _, _, _, rfl, _⟩ := h; rfl) | (obtain ⟨_, _, _, _, _, rfl, _⟩ := h; rfl) | (obtain ⟨_, _, _, _, _, _, rfl, _⟩ := h; rfl) | (obtain ⟨_, _, _, _, _, _, _, rfl, _⟩ := h; rfl) | (obtain ⟨_, _, _, _, _, _, _, _, rfl, _⟩ := h; rfl) | (obtain ⟨_, _, _, _, _, _, _, _, _, rfl, _⟩ := h; rfl) | (obtain ⟨_, _, _, _, _, _, _, _, _, _, rfl, _⟩ := h; rfl) | (obtain ⟨_, _, _, _, _, _, _, _, _, _, _, rfl, _⟩ := h; rfl) | (obtain ⟨_, _, _, _, _, _, _, _, _, _, _, _, rfl, _⟩ := h; rfl) | (obtain ⟨_, _, _, _, _, _, _, _, _, _, _, _, _, rfl, _⟩ := h; rfl) | (obtain ⟨_, _, _, _, _, _, _, _, _, _, _, _, _, _, rfl, _⟩ := h; rfl) | (obtain ⟨_, _, _, _, _, _, _, _, _, _, _, _, _, _, _, rfl, _⟩ := h; rfl)) h) | (obtain ⟨rfl, _⟩ := h; rfl) | (obtain ⟨_, rfl, _⟩ := h; rfl) | (obtain ⟨_, _, rfl, _⟩ := h; rfl) | (obtain ⟨_, _, _, rfl, _⟩ := h; rfl) | (obtain ⟨_, _, _, _, rfl, _⟩ := h; rfl) | (obtain ⟨_, _, _, _, _, rfl, _⟩ := h; rfl) | (obtain ⟨_, _, _, _, _, _, rfl, _⟩ := h; rfl) | (obtain ⟨_, _, _, _, _, _, _, rfl, _⟩ := h; rfl) | (obtain ⟨_, _, _, _, _, _, _, _, rfl, _⟩ := h; rfl) | (obtain ⟨_, _, _, _, _, _, _, _, _, rfl, _⟩ := h; rfl) | (obtain ⟨_, _, _, _, _, _, _, _, _, _, rfl, _⟩ := h; rfl) | (obtain ⟨_, _, _, _, _, _, _, _, _, _, _, rfl, _⟩ := h; rfl) | (obtain ⟨_, _, _, _, _, _, _, _, _, _, _, _, rfl, _⟩ := h; rfl) | (obtain ⟨_, _, _, _, _, _, _, _, _, _, _, _, _, rfl, _⟩ := h; rfl) | (obtain ⟨_, _, _, _, _, _, _, _, _, _, _, _, _, _, rfl, _⟩ := h; rfl) | (obtain ⟨_, _, _, _, _, _, _, _, _, _, _, _, _, _, _, rfl, _⟩ := h; rfl)) (fun cdv A outer s H vs Q E hr h => ⟨t_Let_init d, ?_, pure_Let_init T.t_Parts h⟩)
  exact (pss_cons (ps_fld (pv 0) (pv 1) rfl)
      (pss_one (ps_fld (pv 0) (pv 2) rfl)))
theorem ok_Reckon_init (T : Txt d mg z) : FnOk P w d.K mg base CX0 1 z.f_Reckon_init z.d_Reckon_init ["self", "word", "slot", "one", "other"] (sp_Reckon_init d) := by
  refine T.F_Reckon_init.ok sc_Reckon_init (fun vs H Q E h => by first | (exact lift_len (fun ds W Q h => by first | (obtain ⟨rfl, _⟩ := h; rfl) | (obtain ⟨_, rfl, _⟩ := h; rfl) | (obtain ⟨_, _, rfl, _⟩ := h; rfl) | (obtain ⟨_, _, _, rfl, _⟩ := h; rfl) | (obtain ⟨_, _, _, _, rfl, _⟩ := h; rfl) | (obtain ⟨_, _, _, _, _, rfl, _⟩ := h; rfl) | (obtain ⟨_, _, _, _, _, _, rfl, _⟩ := h; rfl) | (obtain ⟨_, _, _, _, _, _, _, rfl, _⟩ := h; rfl) | (obtain ⟨_, _, _, _, _, _, _, _, rfl, _⟩ := h; rfl) | (obtain ⟨_, _, _, _, _, _, _, _, _, rfl, _⟩ := h; rfl) | (obtain ⟨_, _, _, _, _, _, _, _, _, _, rfl, _⟩ := h; rfl) | (obtain ⟨_, _, _, _, _, _, _, _, _, _, _, rfl, _⟩ := h; rfl) | (obtain ⟨_, _, _, _, _, _, _, _, _, _, _, _, rfl, _⟩ := h; rfl) | (obtain ⟨_, _, _, _, _, _, _, _, _, _, _, _, _, rfl, _⟩ := h; rfl) | (obtain ⟨_, _, _, _, _, _, _, _, _, _, _, _, _, _, rfl, _⟩ := h; rfl) | (obtain ⟨_, _, _, _, _, _, _, _, _, _, _, _, _, _, _, rfl, _⟩ := h; rfl)) h) | (obtain ⟨rfl, _⟩ := h; rfl) | (obtain ⟨_, rfl, _⟩ := h; rfl) | (obtain ⟨_, _, rfl, _⟩ := h; rfl) | (obtain ⟨_, _, _, rfl, _⟩ := h; rfl) | (obtain ⟨_, _, _, _, rfl, _⟩ := h; rfl) | (obtain ⟨_, _, _, _, _, rfl, _⟩ := h; rfl) | (obtain ⟨_, _, _, _, _, _, rfl, _⟩ := h; rfl) | (obtain ⟨_, _, _, _, _, _, _, rfl, _⟩ := h; rfl) | (obtain ⟨_, _, _, _, _, _, _, _, rfl, _⟩ := h; rfl) | (obtain ⟨_, _, _, _, _, _, _, _, _, rfl, _⟩ := h; rfl) | (obtain ⟨_, _, _, _, _, _, _, _, _, _, rfl, _⟩ := h; rfl) | (obtain ⟨_, _, _, _, _, _, _, _, _, _, _, rfl, _⟩ := h; rfl) | (obtain ⟨_, _, _, _, _, _, _, _, _, _, _, _, rfl, _⟩ := h; rfl) | (obtain ⟨_, _, _, _, _, _, _, _, _, _, _, _, _, rfl, _⟩ := h; rfl) | (obtain ⟨_, _, _, _, _, _, _, _, _, _, _, _, _, _, rfl, _⟩ := h; rfl) | (obtain ⟨_, _, _, _, _, _, _, _, _, _, _, _, _, _, _, rfl, _⟩ := h; rfl)) (fun cdv A outer s H vs Q E hr h => ⟨t_Reckon_init d, ?_, pure_Reckon_init T.t_Parts h⟩)
  exact (pss_cons (ps_fld (pv 0) (pv 1) rfl)
      (pss_cons (ps_fld (pv 0) (pv 2) rfl)
      (pss_cons (ps_fld (pv 0) (pv 3) rfl)
      (pss_one (ps_fld (pv 0) (pv 4) rfl)))))
theorem ok_Take_init (T : Txt d mg z) : FnOk P w d.K mg base CX0 1 z.f_Take_init z.d_Take_init ["self", "slot", "place"] (sp_Take_init d) := by
  refine T.F_Take_init.ok sc_Take_init (fun vs H Q E h => by first | (exact lift_len (fun ds W Q h => by first | (obtain ⟨rfl, _⟩ := h; rfl) | (obtain ⟨_, rfl, _⟩ := h; rfl) | (obtain ⟨_, _, rfl, _⟩ := h; rfl) | (obtain ⟨_, _, _, rfl, _⟩ := h; rfl) | (obtain ⟨_, _, _, _, rfl, _⟩ := h; rfl) | (obtain ⟨_, _, _, _, _, rfl, _⟩ := h; rfl) | (obtain ⟨_, _, _, _, _, _, rfl, _⟩ := h; rfl) | (obtain ⟨_, _, _, _, _, _, _, rfl, _⟩ := h; rfl) | (obtain ⟨_, _, _, _, _, _, _, _, rfl, _⟩ := h; rfl) | (obtain ⟨_, _, _, _, _, _, _, _, _, rfl, _⟩ := h; rfl) | (obtain ⟨_, _, _, _, _, _, _, _, _, _, rfl, _⟩ := h; rfl) | (obtain ⟨_, _, _, _, _, _, _, _, _, _, _, rfl, _⟩ := h; rfl) | (obtain ⟨_, _, _, _, _, _, _, _, _, _, _, _, rfl, _⟩ := h; rfl) | (obtain ⟨_, _, _, _, _, _, _, _, _, _, _, _, _, rfl, _⟩ := h; rfl) | (obtain ⟨_, _, _, _, _, _, _, _, _, _, _, _, _, _, rfl, _⟩ := h; rfl) | (obtain ⟨_, _, _, _, _, _, _, _, _, _, _, _, _, _, _, rfl, _⟩ := h; rfl)) h) | (obtain ⟨rfl, _⟩ := h; rfl) | (obtain ⟨_, rfl, _⟩ := h; rfl) | (obtain ⟨_, _, rfl, _⟩ := h; rfl) | (obtain ⟨_, _, _, rfl, _⟩ := h; rfl) | (obtain ⟨_, _, _, _, rfl, _⟩ := h; rfl) | (obtain ⟨_, _, _, _, _, rfl, _⟩ := h; rfl) | (obtain ⟨_, _, _, _, _, _, rfl, _⟩ := h; rfl) | (obtain ⟨_, _, _, _, _, _, _, rfl, _⟩ := h; rfl) | (obtain ⟨_, _, _, _, _, _, _, _, rfl, _⟩ := h; rfl) | (obtain ⟨_, _, _, _, _, _, _, _, _, rfl, _⟩ := h; rfl) | (obtain ⟨_, _, _, _, _, _, _, _, _, _, rfl, _⟩ := h; rfl) | (obtain ⟨_, _, _, _, _, _, _, _, _, _, _, rfl, _⟩ := h; rfl) | (obtain ⟨_, _, _, _, _, _, _, _, _, _, _, _, rfl, _⟩ := h; rfl) | (obtain ⟨_, _, _, _, _, _, _, _, _, _, _, _, _, rfl, _⟩ := h; rfl) | (obtain ⟨_, _, _, _, _, _, _, _, _, _, _, _, _, _, rfl, _⟩ := h; rfl) | (obtain ⟨_, _, _, _, _, _, _, _, _, _, _, _, _, _, _, rfl, _⟩ := h; rfl)) (fun cdv A outer s H vs Q E hr h => ⟨t_Take_init d, ?_, pure_Take_init T.t_Parts h⟩)
  exact (pss_cons (ps_fld (pv 0) (pv 1) rfl)
      (pss_one (ps_fld (pv 0) (pv 2) rfl)))
theorem ok_Put_init (T : Txt d mg z) : FnOk P w d.K mg base CX0 1 z.f_Put_init z.d_Put_init ["self", "place", "slot"] (sp_Put_init d) := by
  refine T.F_Put_init.ok sc_Put_init (fun vs H Q E h => by first | (exact lift_len (fun ds W Q h => by first | (obtain ⟨rfl, _⟩ := h; rfl) | (obtain ⟨_, rfl, _⟩ := h; rfl) | (obtain ⟨_, _, rfl, _⟩ := h; rfl) | (obtain ⟨_, _, _, rfl, _⟩ := h; rfl) | (obtain ⟨_, _, _, _, rfl, _⟩ := h; rfl) | (obtain ⟨_, _, _, _, _, rfl, _⟩ := h; rfl) | (obtain ⟨_, _, _, _, _, _, rfl, _⟩ := h; rfl) | (obtain ⟨_, _, _, _, _, _, _, rfl, _⟩ := h; rfl) | (obtain ⟨_, _, _, _, _, _, _, _, rfl, _⟩ := h; rfl) | (obtain ⟨_, _, _, _, _, _, _, _, _, rfl, _⟩ := h; rfl) | (obtain ⟨_, _, _, _, _, _, _, _, _, _, rfl, _⟩ := h; rfl) | (obtain ⟨_, _, _, _, _, _, _, _, _, _, _, rfl, _⟩ := h; rfl) | (obtain ⟨_, _, _, _, _, _, _, _, _, _, _, _, rfl, _⟩ := h; rfl) | (obtain ⟨_, _, _, _, _, _, _, _, _, _, _, _, _, rfl, _⟩ := h; rfl) | (obtain ⟨_, _, _, _, _, _, _, _, _, _, _, _, _, _, rfl, _⟩ := h; rfl) | (obtain ⟨_, _, _, _, _, _, _, _, _, _, _, _, _, _, _, rfl, _⟩ := h; rfl)) h) | (obtain ⟨rfl, _⟩ := h; rfl) | (obtain ⟨_, rfl, _⟩ := h; rfl) | (obtain ⟨_, _, rfl, _⟩ := h; rfl) | (obtain ⟨_, _, _, rfl, _⟩ := h; rfl) | (obtain ⟨_, _, _, _, rfl, _⟩ := h; rfl) | (obtain ⟨_, _, _, _, _, rfl, _⟩ := h; rfl) | (obtain ⟨_, _, _, _, _, _, rfl, _⟩ := h; rfl) | (obtain ⟨_, _, _, _, _, _, _, rfl, _⟩ := h; rfl) | (obtain ⟨_, _, _, _, _, _, _, _, rfl, _⟩ := h; rfl) | (obtain ⟨_, _, _, _, _, _, _, _, _, rfl, _⟩ := h; rfl) | (obtain ⟨_, _, _, _, _, _, _, _, _, _, rfl, _⟩ := h; rfl) | (obtain ⟨_, _, _, _, _, _, _, _, _, _, _, rfl, _⟩ := h; rfl) | (obtain ⟨_, _, _, _, _, _, _, _, _, _, _, _, rfl, _⟩ := h; rfl) | (obtain ⟨_, _, _, _, _, _, _, _, _, _, _, _, _, rfl, _⟩ := h; rfl) | (obtain ⟨_, _, _, _, _, _, _, _, _, _, _, _, _, _, rfl, _⟩ := h; rfl) | (obtain ⟨_, _, _, _, _, _, _, _, _, _, _, _, _, _, _, rfl, _⟩ := h; rfl)) (fun cdv A outer s H vs Q E hr h => ⟨t_Put_init d, ?_, pure_Put_init T.t_Parts h⟩)
  exact (pss_cons (ps_fld (pv 0) (pv 1) rfl)
      (pss_one (ps_fld (pv 0) (pv 2) rfl)))
theorem ok_If_init (T : Txt d mg z) : FnOk P w d.K mg base CX0 1 z.f_If_init z.d_If_init ["self", "slot", "parts", "others"] (sp_If_init d) := by
  refine T.F_If_init.ok sc_If_init (fun vs H Q E h => by first | (exact lift_len (fun ds W Q h => by first | (obtain ⟨rfl, _⟩ := h; rfl) | (obtain ⟨_, rfl, _⟩ := h; rfl) | (obtain ⟨_, _, rfl, _⟩ := h; rfl) | (obtain ⟨_, _, _, rfl, _⟩ := h; rfl) | (obtain ⟨_, _, _, _, rfl, _⟩ := h; rfl) | (obtain ⟨_, _, _, _, _, rfl, _⟩ := h; rfl) | (obtain ⟨_, _, _, _, _, _, rfl, _⟩ := h; rfl) | (obtain ⟨_, _, _, _, _, _, _, rfl, _⟩ := h; rfl) | (obtain ⟨_, _, _, _, _, _, _, _, rfl, _⟩ := h; rfl) | (obtain ⟨_, _, _, _, _, _, _, _, _, rfl, _⟩ := h; rfl) | (obtain ⟨_, _, _, _, _, _, _, _, _, _, rfl, _⟩ := h; rfl) | (obtain ⟨_, _, _, _, _, _, _, _, _, _, _, rfl, _⟩ := h; rfl) | (obtain ⟨_, _, _, _, _, _, _, _, _, _, _, _, rfl, _⟩ := h; rfl) | (obtain ⟨_, _, _, _, _, _, _, _, _, _, _, _, _, rfl, _⟩ := h; rfl) | (obtain ⟨_, _, _, _, _, _, _, _, _, _, _, _, _, _, rfl, _⟩ := h; rfl) | (obtain ⟨_, _, _, _, _, _, _, _, _, _, _, _, _, _, _, rfl, _⟩ := h; rfl)) h) | (obtain ⟨rfl, _⟩ := h; rfl) | (obtain ⟨_, rfl, _⟩ := h; rfl) | (obtain ⟨_, _, rfl, _⟩ := h; rfl) | (obtain ⟨_, _, _, rfl, _⟩ := h; rfl) | (obtain ⟨_, _, _, _, rfl, _⟩ := h; rfl) | (obtain ⟨_, _, _, _, _, rfl, _⟩ := h; rfl) | (obtain ⟨_, _, _, _, _, _, rfl, _⟩ := h; rfl) | (obtain ⟨_, _, _, _, _, _, _, rfl, _⟩ := h; rfl) | (obtain ⟨_, _, _, _, _, _, _, _, rfl, _⟩ := h; rfl) | (obtain ⟨_, _, _, _, _, _, _, _, _, rfl, _⟩ := h; rfl) | (obtain ⟨_, _, _, _, _, _, _, _, _, _, rfl, _⟩ := h; rfl) | (obtain ⟨_, _, _, _, _, _, _, _, _, _, _, rfl, _⟩ := h; rfl) | (obtain ⟨_, _, _, _, _, _, _, _, _, _, _, _, rfl, _⟩ := h; rfl) | (obtain ⟨_, _, _, _, _, _, _, _, _, _, _, _, _, rfl, _⟩ := h; rfl) | (obtain ⟨_, _, _, _, _, _, _, _, _, _, _, _, _, _, rfl, _⟩ := h; rfl) | (obtain ⟨_, _, _, _, _, _, _, _, _, _, _, _, _, _, _, rfl, _⟩ := h; rfl)) (fun cdv A outer s H vs Q E hr h => ⟨t_If_init d, ?_, pure_If_init T.t_Parts h⟩)
  exact (pss_cons (ps_fld (pv 0) (pv 1) rfl)
      (pss_cons (ps_fld (pv 0) (pe_callTy call_list_of (by rfl) T.b_list (by decide +kernel) (pa_cons (pv 2) pa_nil)) rfl)
      (pss_one (ps_fld (pv 0) (pe_callTy call_list_of (by rfl) T.b_list (by decide +kernel) (pa_cons (pv 3) pa_nil)) rfl))))
theorem ok_Either_init (T : Txt d mg z) : FnOk P w d.K mg base CX0 1 z.f_Either_init z.d_Either_init ["self", "parts", "others"] (sp_Either_init d) := by
  refine T.F_Either_init.ok sc_Either_init (fun vs H Q E h => by first | (exact lift_len (fun ds W Q h => by first | (obtain ⟨rfl, _⟩ := h; rfl) | (obtain ⟨_, rfl, _⟩ := h; rfl) | (obtain ⟨_, _, rfl, _⟩ := h; rfl) | (obtain ⟨_, _, _, rfl, _⟩ := h; rfl) | (obtain ⟨_, _, _, _, rfl, _⟩ := h; rfl) | (obtain ⟨_, _, _, _, _, rfl, _⟩ := h; rfl) | (obtain ⟨_, _, _, _, _, _, rfl, _⟩ := h; rfl) | (obtain ⟨_, _, _, _, _, _, _, rfl, _⟩ := h; rfl) | (obtain ⟨_, _, _, _, _, _, _, _, rfl, _⟩ := h; rfl) | (obtain ⟨_, _, _, _, _, _, _, _, _, rfl, _⟩ := h; rfl) | (obtain ⟨_, _, _, _, _, _, _, _, _, _, rfl, _⟩ := h; rfl) | (obtain ⟨_, _, _, _, _, _, _, _, _, _, _, rfl, _⟩ := h; rfl) | (obtain ⟨_, _, _, _, _, _, _, _, _, _, _, _, rfl, _⟩ := h; rfl) | (obtain ⟨_, _, _, _, _, _, _, _, _, _, _, _, _, rfl, _⟩ := h; rfl) | (obtain ⟨_, _, _, _, _, _, _, _, _, _, _, _, _, _, rfl, _⟩ := h; rfl) | (obtain ⟨_, _, _, _, _, _, _, _, _, _, _, _, _, _, _, rfl, _⟩ := h; rfl)) h) | (obtain ⟨rfl, _⟩ := h; rfl) | (obtain ⟨_, rfl, _⟩ := h; rfl) | (obtain ⟨_, _, rfl, _⟩ := h; rfl) | (obtain ⟨_, _, _, rfl, _⟩ := h; rfl) | (obtain ⟨_, _, _, _, rfl, _⟩ := h; rfl) | (obtain ⟨_, _, _, _, _, rfl, _⟩ := h; rfl) | (obtain ⟨_, _, _, _, _, _, rfl, _⟩ := h; rfl) | (obtain ⟨_, _, _, _, _, _, _, rfl, _⟩ := h; rfl) | (obtain ⟨_, _, _, _, _, _, _, _, rfl, _⟩ := h; rfl) | (obtain ⟨_, _, _, _, _, _, _, _, _, rfl, _⟩ := h; rfl) | (obtain ⟨_, _, _, _, _, _, _, _, _, _, rfl, _⟩ := h; rfl) | (obtain ⟨_, _, _, _, _, _, _, _, _, _, _, rfl, _⟩ := h; rfl) | (obtain ⟨_, _, _, _, _, _, _, _, _, _, _, _, rfl, _⟩ := h; rfl) | (obtain ⟨_, _, _, _, _, _, _, _, _, _, _, _, _, rfl, _⟩ := h; rfl) | (obtain ⟨_, _, _, _, _, _, _, _, _, _, _, _, _, _, rfl, _⟩ := h; rfl) | (obtain ⟨_, _, _, _, _, _, _, _, _, _, _, _, _, _, _, rfl, _⟩ := h; rfl)) (fun cdv A outer s H vs Q E hr h => ⟨t_Either_init d, ?_, pure_Either_init T.t_Parts h⟩)
  exact (pss_cons (ps_fld (pv 0) (pe_callTy call_list_of (by rfl) T.b_list (by decide +kernel) (pa_cons (pv 1) pa_nil)) rfl)
      (pss_one (ps_fld (pv 0) (pe_callTy call_list_of (by rfl) T.b_list (by decide +kernel) (pa_cons (pv 2) pa_nil)) rfl)))
theorem ok_Try_init (T : Txt d mg z) : FnOk P w d.K mg base CX0 1 z.f_Try_init z.d_Try_init ["self", "parts", "name", "slot", "others"] (sp_Try_init d) := by
  refine T.F_Try_init.ok sc_Try_init (fun vs H Q E h => by first | (exact lift_len (fun ds W Q h => by first | (obtain ⟨rfl, _⟩ := h; rfl) | (obtain ⟨_, rfl, _⟩ := h; rfl) | (obtain ⟨_, _, rfl, _⟩ := h; rfl) | (obtain ⟨_, _, _, rfl, _⟩ := h; rfl) | (obtain ⟨_, _, _, _, rfl, _⟩ := h; rfl) | (obtain ⟨_, _, _, _, _, rfl, _⟩ := h; rfl) | (obtain ⟨_, _, _, _, _, _, rfl, _⟩ := h; rfl) | (obtain ⟨_, _, _, _, _, _, _, rfl, _⟩ := h; rfl) | (obtain ⟨_, _, _, _, _, _, _, _, rfl, _⟩ := h; rfl) | (obtain ⟨_, _, _, _, _, _, _, _, _, rfl, _⟩ := h; rfl) | (obtain ⟨_, _, _, _, _, _, _, _, _, _, rfl, _⟩ := h; rfl) | (obtain ⟨_, _, _, _, _, _, _, _, _, _, _, rfl, _⟩ := h; rfl) | (obtain ⟨_, _, _, _, _, _, _, _, _, _, _, _, rfl, _⟩ := h; rfl) | (obtain ⟨_, _, _, _, _, _, _, _, _, _, _, _, _, rfl, _⟩ := h; rfl) | (obtain ⟨_, _, _, _, _, _, _, _, _, _, _, _, _, _, rfl, _⟩ := h; rfl) | (obtain ⟨_, _, _, _, _, _, _, _, _, _, _, _, _, _, _, rfl, _⟩ := h; rfl)) h) | (obtain ⟨rfl, _⟩ := h; rfl) | (obtain ⟨_, rfl, _⟩ := h; rfl) | (obtain ⟨_, _, rfl, _⟩ := h; rfl) | (obtain ⟨_, _, _, rfl, _⟩ := h; rfl) | (obtain ⟨_, _, _, _, rfl, _⟩ := h; rfl) | (obtain ⟨_, _, _, _, _, rfl, _⟩ := h; rfl) | (obtain ⟨_, _, _, _, _, _, rfl, _⟩ := h; rfl) | (obtain ⟨_, _, _, _, _, _, _, rfl, _⟩ := h; rfl) | (obtain ⟨_, _, _, _, _, _, _, _, rfl, _⟩ := h; rfl) | (obtain ⟨_, _, _, _, _, _, _, _, _, rfl, _⟩ := h; rfl) | (obtain ⟨_, _, _, _, _, _, _, _, _, _, rfl, _⟩ := h; rfl) | (obtain ⟨_, _, _, _, _, _, _, _, _, _, _, rfl, _⟩ := h; rfl) | (obtain ⟨_, _, _, _, _, _, _, _, _, _, _, _, rfl, _⟩ := h; rfl) | (obtain ⟨_, _, _, _, _, _, _, _, _, _, _, _, _, rfl, _⟩ := h; rfl) | (obtain ⟨_, _, _, _, _, _, _, _, _, _, _, _, _, _, rfl, _⟩ := h; rfl) | (obtain ⟨_, _, _, _, _, _, _, _, _, _, _, _, _, _, _, rfl, _⟩ := h; rfl)) (fun cdv A outer s H vs Q E hr h => ⟨t_Try_init d, ?_, pure_Try_init T.t_Parts h⟩)
  exact (pss_cons (ps_fld (pv 0) (pe_callTy call_list_of (by rfl) T.b_list (by decide +kernel) (pa_cons (pv 1) pa_nil)) rfl)
      (pss_cons (ps_fld (pv 0) (pv 2) rfl)
      (pss_cons (ps_fld (pv 0) (pv 3) rfl)
      (pss_one (ps_fld (pv 0) (pe_callTy call_list_of (by rfl) T.b_list (by decide +kernel) (pa_cons (pv 4) pa_nil)) rfl)))))
theorem ok_Throw_init (T : Txt d mg z) : FnOk P w d.K mg base CX0 1 z.f_Throw_init z.d_Throw_init ["self", "name", "slot"] (sp_Throw_init d) := by
  refine T.F_Throw_init.ok sc_Throw_init (fun vs H Q E h => by first | (exact lift_len (fun ds W Q h => by first | (obtain ⟨rfl, _⟩ := h; rfl) | (obtain ⟨_, rfl, _⟩ := h; rfl) | (obtain ⟨_, _, rfl, _⟩ := h; rfl) | (obtain ⟨_, _, _, rfl, _⟩ := h; rfl) | (obtain ⟨_, _, _, _, rfl, _⟩ := h; rfl) | (obtain ⟨_, _, _, _, _, rfl, _⟩ := h; rfl) | (obtain ⟨_, _, _, _, _, _, rfl, _⟩ := h; rfl) | (obtain ⟨_, _, _, _, _, _, _, rfl, _⟩ := h; rfl) | (obtain ⟨_, _, _, _, _, _, _, _, rfl, _⟩ := h; rfl) | (obtain ⟨_, _, _, _, _, _, _, _, _, rfl, _⟩ := h; rfl) | (obtain ⟨_, _, _, _, _, _, _, _, _, _, rfl, _⟩ := h; rfl) | (obtain ⟨_, _, _, _, _, _, _, _, _, _, _, rfl, _⟩ := h; rfl) | (obtain ⟨_, _, _, _, _, _, _, _, _, _, _, _, rfl, _⟩ := h; rfl) | (obtain ⟨_, _, _, _, _, _, _, _, _, _, _, _, _, rfl, _⟩ := h; rfl) | (obtain ⟨_, _, _, _, _, _, _, _, _, _, _, _, _, _, rfl, _⟩ := h; rfl) | (obtain ⟨_, _, _, _, _, _, _, _, _, _, _, _, _, _, _, rfl, _⟩ := h; rfl)) h) | (obtain ⟨rfl, _⟩ := h; rfl) | (obtain ⟨_, rfl, _⟩ := h; rfl) | (obtain ⟨_, _, rfl, _⟩ := h; rfl) | (obtain ⟨_, _, _, rfl, _⟩ := h; rfl) | (obtain ⟨_, _, _, _, rfl, _⟩ := h; rfl) | (obtain ⟨_, _, _, _, _, rfl, _⟩ := h; rfl) | (obtain ⟨_, _, _, _, _, _, rfl, _⟩ := h; rfl) | (obtain ⟨_, _, _, _, _, _, _, rfl, _⟩ := h; rfl) | (obtain ⟨_, _, _, _, _, _, _, _, rfl, _⟩ := h; rfl) | (obtain ⟨_, _, _, _, _, _, _, _, _, rfl, _⟩ := h; rfl) | (obtain ⟨_, _, _, _, _, _, _, _, _, _, rfl, _⟩ := h; rfl) | (obtain ⟨_, _, _, _, _, _, _, _, _, _, _, rfl, _⟩ := h; rfl) | (obtain ⟨_, _, _, _, _, _, _, _, _, _, _, _, rfl, _⟩ := h; rfl) | (obtain ⟨_, _, _, _, _, _, _, _, _, _, _, _, _, rfl, _⟩ := h; rfl) | (obtain ⟨_, _, _, _, _, _, _, _, _, _, _, _, _, _, rfl, _⟩ := h; rfl) | (obtain ⟨_, _, _, _, _, _, _, _, _, _, _, _, _, _, _, rfl, _⟩ := h; rfl)) (fun cdv A outer s H vs Q E hr h => ⟨t_Throw_init d, ?_, pure_Throw_init T.t_Parts h⟩)
  exact (pss_cons (ps_fld (pv 0) (pv 1) rfl)
      (pss_one (ps_fld (pv 0) (pv 2) rfl)))
theorem ok_Let_long (T : Txt d mg z) : FnOk P w d.K mg base CX0 1 z.f_Let_long z.d_Let_long ["self"] (sp_Let_long d) := by
  refine T.F_Let_long.ok sc_Let_long (fun vs H Q E h => by first | (exact lift_len (fun ds W Q h => by first | (obtain ⟨rfl, _⟩ := h; rfl) | (obtain ⟨_, rfl, _⟩ := h; rfl) | (obtain ⟨_, _, rfl, _⟩ := h; rfl) | (obtain ⟨_, _, _, rfl, _⟩ := h; rfl) | (obtain ⟨_, _, _, _, rfl, _⟩ := h; rfl) | (obtain ⟨_, _, _, _, _, rfl, _⟩ := h; rfl) | (obtain ⟨_, _, _, _, _, _, rfl, _⟩ := h; rfl) | (obtain ⟨_, _, _, _, _, _, _, rfl, _⟩ := h; rfl) | (obtain ⟨_, _, _, _, _, _, _, _, rfl, _⟩ := h; rfl) | (obtain ⟨_, _, _, _, _, _, _, _, _, rfl, _⟩ := h; rfl) | (obtain ⟨_, _, _, _, _, _, _, _, _, _, rfl, _⟩ := h; rfl) | (obtain ⟨_, _, _, _, _, _, _, _, _, _, _, rfl, _⟩ := h; rfl) | (obtain ⟨_, _, _, _, _, _, _, _, _, _, _, _, rfl, _⟩ := h; rfl) | (obtain ⟨_, _, _, _, _, _, _, _, _, _, _, _, _, rfl, _⟩ := h; rfl) | (obtain ⟨_, _, _, _, _, _, _, _, _, _, _, _, _, _, rfl, _⟩ := h; rfl) | (obtain ⟨_, _, _, _, _, _, _, _, _, _, _, _, _, _, _, rfl, _⟩ := h; rfl)) h) | (obtain ⟨rfl, _⟩ := h; rfl) | (obtain ⟨_, rfl, _⟩ := h; rfl) | (obtain ⟨_, _, rfl, _⟩ := h; rfl) | (obtain ⟨_, _, _, rfl, _⟩ := h; rfl) | (obtain ⟨_, _, _, _, rfl, _⟩ := h; rfl) | (obtain ⟨_, _, _, _, _, rfl, _⟩ := h; rfl) | (obtain ⟨_, _, _, _, _, _, rfl, _⟩ := h; rfl) | (obtain ⟨_, _, _, _, _, _, _, rfl, _⟩ := h; rfl) | (obtain ⟨_, _, _, _, _, _, _, _, rfl, _⟩ := h; rfl) | (obtain ⟨_, _, _, _, _, _, _, _, _, rfl, _⟩ := h; rfl) | (obtain ⟨_, _, _, _, _, _, _, _, _, _, rfl, _⟩ := h; rfl) | (obtain ⟨_, _, _, _, _, _, _, _, _, _, _, rfl, _⟩ := h; rfl) | (obtain ⟨_, _, _, _, _, _, _, _, _, _, _, _, rfl, _⟩ := h; rfl) | (obtain ⟨_, _, _, _, _, _, _, _, _, _, _, _, _, rfl, _⟩ := h; rfl) | (obtain ⟨_, _, _, _, _, _, _, _, _, _, _, _, _, _, rfl, _⟩ := h; rfl) | (obtain ⟨_, _, _, _, _, _, _, _, _, _, _, _, _, _, _, rfl, _⟩ := h; rfl)) (fun cdv A outer s H vs Q E hr h => ⟨t_Let_long d, ?_, pure_Let_long  h⟩)
  exact (pss_one (ps_ret pe_int))
theorem ok_Reckon_long (T : Txt d mg z) : FnOk P w d.K mg base CX0 1 z.f_Reckon_long z.d_Reckon_long ["self"] (sp_Reckon_long d) := by
  refine T.F_Reckon_long.ok sc_Reckon_long (fun vs H Q E h => by first | (exact lift_len (fun ds W Q h => by first | (obtain ⟨rfl, _⟩ := h; rfl) | (obtain ⟨_, rfl, _⟩ := h; rfl) | (obtain ⟨_, _, rfl, _⟩ := h; rfl) | (obtain ⟨_, _, _, rfl, _⟩ := h; rfl) | (obtain ⟨_, _, _, _, rfl, _⟩ := h; rfl) | (obtain ⟨_, _, _, _, _, rfl, _⟩ := h; rfl) | (obtain ⟨_, _, _, _, _, _, rfl, _⟩ := h; rfl) | (obtain ⟨_, _, _, _, _, _, _, rfl, _⟩ := h; rfl) | (obtain ⟨_, _, _, _, _, _, _, _, rfl, _⟩ := h; rfl) | (obtain ⟨_, _, _, _, _, _, _, _, _, rfl, _⟩ := h; rfl) | (obtain ⟨_, _, _, _, _, _, _, _, _, _, rfl, _⟩ := h; rfl) | (obtain ⟨_, _, _, _, _, _, _, _, _, _, _, rfl, _⟩ := h; rfl) | (obtain ⟨_, _, _, _, _, _, _, _, _, _, _, _, rfl, _⟩ := h; rfl) | (obtain ⟨_, _, _, _, _, _, _, _, _, _, _, _, _, rfl, _⟩ := h; rfl) | (obtain ⟨_, _, _, _, _, _, _, _, _, _, _, _, _, _, rfl, _⟩ := h; rfl) | (obtain ⟨_, _, _, _, _, _, _, _, _, _, _, _, _, _, _, rfl, _⟩ := h; rfl)) h) | (obtain ⟨rfl, _⟩ := h; rfl) | (obtain ⟨_, rfl, _⟩ := h; rfl) | (obtain ⟨_, _, rfl, _⟩ := h; rfl) | (obtain ⟨_, _, _, rfl, _⟩ := h; rfl) | (obtain ⟨_, _, _, _, rfl, _⟩ := h; rfl) | (obtain ⟨_, _, _, _, _, rfl, _⟩ := h; rfl) | (obtain ⟨_, _, _, _, _, _, rfl, _⟩ := h; rfl) | (obtain ⟨_, _, _, _, _, _, _, rfl, _⟩ := h; rfl) | (obtain ⟨_, _, _, _, _, _, _, _, rfl, _⟩ := h; rfl) | (obtain ⟨_, _, _, _, _, _, _, _, _, rfl, _⟩ := h; rfl) | (obtain ⟨_, _, _, _, _, _, _, _, _, _, rfl, _⟩ := h; rfl) | (obtain ⟨_, _, _, _, _, _, _, _, _, _, _, rfl, _⟩ := h; rfl) | (obtain ⟨_, _, _, _, _, _, _, _, _, _, _, _, rfl, _⟩ := h; rfl) | (obtain ⟨_, _, _, _, _, _, _, _, _, _, _, _, _, rfl, _⟩ := h; rfl) | (obtain ⟨_, _, _, _, _, _, _, _, _, _, _, _, _, _, rfl, _⟩ := h; rfl) | (obtain ⟨_, _, _, _, _, _, _, _, _, _, _, _, _, _, _, rfl, _⟩ := h; rfl)) (fun cdv A outer s H vs Q E hr h => ⟨t_Reckon_long d, ?_, pure_Reckon_long  h⟩)
  exact (pss_one (ps_ret pe_int))
theorem ok_Take_long (T : Txt d mg z) : FnOk P w d.K mg base CX0 1 z.f_Take_long z.d_Take_long ["self"] (sp_Take_long d) := by
  refine T.F_Take_long.ok sc_Take_long (fun vs H Q E h => by first | (exact lift_len (fun ds W Q h => by first | (obtain ⟨rfl, _⟩ := h; rfl) | (obtain ⟨_, rfl, _⟩ := h; rfl) | (obtain ⟨_, _, rfl, _⟩ := h; rfl) | (obtain ⟨_, _, _, rfl, _⟩ := h; rfl) | (obtain ⟨_, _, _, _, rfl, _⟩ := h; rfl) | (obtain ⟨_, _, _, _, _, rfl, _⟩ := h; rfl) | (obtain ⟨_, _, _, _, _, _, rfl, _⟩ := h; rfl) | (obtain ⟨_, _, _, _, _, _, _, rfl, _⟩ := h; rfl) | (obtain ⟨_, _, _, _, _, _, _, _, rfl, _⟩ := h; rfl) | (obtain ⟨_, _, _, _, _, _, _, _, _, rfl, _⟩ := h; rfl) | (obtain ⟨_, _, _, _, _, _, _, _, _, _, rfl, _⟩ := h; rfl) | (obtain ⟨_, _, _, _, _, _, _, _, _, _, _, rfl, _⟩ := h; rfl) | (obtain ⟨_, _, _, _, _, _, _, _, _, _, _, _, rfl, _⟩ := h; rfl) | (obtain ⟨_, _, _, _, _, _, _, _, _, _, _, _, _, rfl, _⟩ := h; rfl) | (obtain ⟨_, _, _, _, _, _, _, _, _, _, _, _, _, _, rfl, _⟩ := h; rfl) | (obtain ⟨_, _, _, _, _, _, _, _, _, _, _, _, _, _, _, rfl, _⟩ := h; rfl)) h) | (obtain ⟨rfl, _⟩ := h; rfl) | (obtain ⟨_, rfl, _⟩ := h; rfl) | (obtain ⟨_, _, rfl, _⟩ := h; rfl) | (obtain ⟨_, _, _, rfl, _⟩ := h; rfl) | (obtain ⟨_, _, _, _, rfl, _⟩ := h; rfl) | (obtain ⟨_, _, _, _, _, rfl, _⟩ := h; rfl) | (obtain ⟨_, _, _, _, _, _, rfl, _⟩ := h; rfl) | (obtain ⟨_, _, _, _, _, _, _, rfl, _⟩ := h; rfl) | (obtain ⟨_, _, _, _, _, _, _, _, rfl, _⟩ := h; rfl) | (obtain ⟨_, _, _, _, _, _, _, _, _, rfl, _⟩ := h; rfl) | (obtain ⟨_, _, _, _, _, _, _, _, _, _, rfl, _⟩ := h; rfl) | (obtain ⟨_, _, _, _, _, _, _, _, _, _, _, rfl, _⟩ := h; rfl) | (obtain ⟨_, _, _, _, _, _, _, _, _, _, _, _, rfl, _⟩ := h; rfl) | (obtain ⟨_, _, _, _, _, _, _, _, _, _, _, _, _, rfl, _⟩ := h; rfl) | (obtain ⟨_, _, _, _, _, _, _, _, _, _, _, _, _, _, rfl, _⟩ := h; rfl) | (obtain ⟨_, _, _, _, _, _, _, _, _, _, _, _, _, _, _, rfl, _⟩ := h; rfl)) (fun cdv A outer s H vs Q E hr h => ⟨t_Take_long d, ?_, pure_Take_long  h⟩)
  exact (pss_one (ps_ret pe_int))
theorem ok_Put_long (T : Txt d mg z) : FnOk P w d.K mg base CX0 1 z.f_Put_long z.d_Put_long ["self"] (sp_Put_long d) := by
  refine T.F_Put_long.ok sc_Put_long (fun vs H Q E h => by first | (exact lift_len (fun ds W Q h => by first | (obtain ⟨rfl, _⟩ := h; rfl) | (obtain ⟨_, rfl, _⟩ := h; rfl) | (obtain ⟨_, _, rfl, _⟩ := h; rfl) | (obtain ⟨_, _, _, rfl, _⟩ := h; rfl) | (obtain ⟨_, _, _, _, rfl, _⟩ := h; rfl) | (obtain ⟨_, _, _, _, _, rfl, _⟩ := h; rfl) | (obtain ⟨_, _, _, _, _, _, rfl, _⟩ := h; rfl) | (obtain ⟨_, _, _, _, _, _, _, rfl, _⟩ := h; rfl) | (obtain ⟨_, _, _, _, _, _, _, _, rfl, _⟩ := h; rfl) | (obtain ⟨_, _, _, _, _, _, _, _, _, rfl, _⟩ := h; rfl) | (obtain ⟨_, _, _, _, _, _, _, _, _, _, rfl, _⟩ := h; rfl) | (obtain ⟨_, _, _, _, _, _, _, _, _, _, _, rfl, _⟩ := h; rfl) | (obtain ⟨_, _, _, _, _, _, _, _, _, _, _, _, rfl, _⟩ := h; rfl) | (obtain ⟨_, _, _, _, _, _, _, _, _, _, _, _, _, rfl, _⟩ := h; rfl) | (obtain ⟨_, _, _, _, _, _, _, _, _, _, _, _, _, _, rfl, _⟩ := h; rfl) | (obtain ⟨_, _, _, _, _, _, _, _, _, _, _, _, _, _, _, rfl, _⟩ := h; rfl)) h) | (obtain ⟨rfl, _⟩ := h; rfl) | (obtain ⟨_, rfl, _⟩ := h; rfl) | (obtain ⟨_, _, rfl, _⟩ := h; rfl) | (obtain ⟨_, _, _, rfl, _⟩ := h; rfl) | (obtain ⟨_, _, _, _, rfl, _⟩ := h; rfl) | (obtain ⟨_, _, _, _, _, rfl, _⟩ := h; rfl) | (obtain ⟨_, _, _, _, _, _, rfl, _⟩ := h; rfl) | (obtain ⟨_, _, _, _, _, _, _, rfl, _⟩ := h; rfl) | (obtain ⟨_, _, _, _, _, _, _, _, rfl, _⟩ := h; rfl) | (obtain ⟨_, _, _, _, _, _, _, _, _, rfl, _⟩ := h; rfl) | (obtain ⟨_, _, _, _, _, _, _, _, _, _, rfl, _⟩ := h; rfl) | (obtain ⟨_, _, _, _, _, _, _, _, _, _, _, rfl, _⟩ := h; rfl) | (obtain ⟨_, _, _, _, _, _, _, _, _, _, _, _, rfl, _⟩ := h; rfl) | (obtain ⟨_, _, _, _, _, _, _, _, _, _, _, _, _, rfl, _⟩ := h; rfl) | (obtain ⟨_, _, _, _, _, _, _, _, _, _, _, _, _, _, rfl, _⟩ := h; rfl) | (obtain ⟨_, _, _, _, _, _, _, _, _, _, _, _, _, _, _, rfl, _⟩ := h; rfl)) (fun cdv A outer s H vs Q E hr h => ⟨t_Put_long d, ?_, pure_Put_long  h⟩)
  exact (pss_one (ps_ret pe_int))
theorem ok_Throw_long (T : Txt d mg z) : FnOk P w d.K mg base CX0 1 z.f_Throw_long z.d_Throw_long ["self"] (sp_Throw_long d) := by
  refine T.F_Throw_long.ok sc_Throw_long (fun vs H Q E h => by first | (exact lift_len (fun ds W Q h => by first | (obtain ⟨rfl, _⟩ := h; rfl) | (obtain ⟨_, rfl, _⟩ := h; rfl) | (obtain ⟨_, _, rfl, _⟩ := h; rfl) | (obtain ⟨_, _, _, rfl, _⟩ := h; rfl) | (obtain ⟨_, _, _, _, rfl, _⟩ := h; rfl) | (obtain ⟨_, _, _, _, _, rfl, _⟩ := h; rfl) | (obtain ⟨_, _, _, _, _, _, rfl, _⟩ := h; rfl) | (obtain ⟨_, _, _, _, _, _, _, rfl, _⟩ := h; rfl) | (obtain ⟨_, _, _, _, _, _, _, _, rfl, _⟩ := h; rfl) | (obtain ⟨_, _, _, _, _, _, _, _, _, rfl, _⟩ := h; rfl) | (obtain ⟨_, _, _, _, _, _, _, _, _, _, rfl, _⟩ := h; rfl) | (obtain ⟨_, _, _, _, _, _, _, _, _, _, _, rfl, _⟩ := h; rfl) | (obtain ⟨_, _, _, _, _, _, _, _, _, _, _, _, rfl, _⟩ := h; rfl) | (obtain ⟨_, _, _, _, _, _, _, _, _, _, _, _, _, rfl, _⟩ := h; rfl) | (obtain ⟨_, _, _, _, _, _, _, _, _, _, _, _, _, _, rfl, _⟩ := h; rfl) | (obtain ⟨_, _, _, _, _, _, _, _, _, _, _, _, _, _, _, rfl, _⟩ := h; rfl)) h) | (obtain ⟨rfl, _⟩ := h; rfl) | (obtain ⟨_, rfl, _⟩ := h; rfl) | (obtain ⟨_, _, rfl, _⟩ := h; rfl) | (obtain ⟨_, _, _, rfl, _⟩ := h; rfl) | (obtain ⟨_, _, _, _, rfl, _⟩ := h; rfl) | (obtain ⟨_, _, _, _, _, rfl, _⟩ := h; rfl) | (obtain ⟨_, _, _, _, _, _, rfl, _⟩ := h; rfl) | (obtain ⟨_, _, _, _, _, _, _, rfl, _⟩ := h; rfl) | (obtain ⟨_, _, _, _, _, _, _, _, rfl, _⟩ := h; rfl) | (obtain ⟨_, _, _, _, _, _, _, _, _, rfl, _⟩ := h; rfl) | (obtain ⟨_, _, _, _, _, _, _, _, _, _, rfl, _⟩ := h; rfl) | (obtain ⟨_, _, _, _, _, _, _, _, _, _, _, rfl, _⟩ := h; rfl) | (obtain ⟨_, _, _, _, _, _, _, _, _, _, _, _, rfl, _⟩ := h; rfl) | (obtain ⟨_, _, _, _, _, _, _, _, _, _, _, _, _, rfl, _⟩ := h; rfl) | (obtain ⟨_, _, _, _, _, _, _, _, _, _, _, _, _, _, rfl, _⟩ := h; rfl) | (obtain ⟨_, _, _, _, _, _, _, _, _, _, _, _, _, _, _, rfl, _⟩ := h; rfl)) (fun cdv A outer s H vs Q E hr h => ⟨t_Throw_long d, ?_, pure_Throw_long  h⟩)
  exact (pss_one (ps_ret pe_int))
theorem ok_Wait_long (T : Txt d mg z) : FnOk P w d.K mg base CX0 1 z.f_Wait_long z.d_Wait_long ["self"] (sp_Wait_long d) := by
  refine T.F_Wait_long.ok sc_Wait_long (fun vs H Q E h => by first | (exact lift_len (fun ds W Q h => by first | (obtain ⟨rfl, _⟩ := h; rfl) | (obtain ⟨_, rfl, _⟩ := h; rfl) | (obtain ⟨_, _, rfl, _⟩ := h; rfl) | (obtain ⟨_, _, _, rfl, _⟩ := h; rfl) | (obtain ⟨_, _, _, _, rfl, _⟩ := h; rfl) | (obtain ⟨_, _, _, _, _, rfl, _⟩ := h; rfl) | (obtain ⟨_, _, _, _, _, _, rfl, _⟩ := h; rfl) | (obtain ⟨_, _, _, _, _, _, _, rfl, _⟩ := h; rfl) | (obtain ⟨_, _, _, _, _, _, _, _, rfl, _⟩ := h; rfl) | (obtain ⟨_, _, _, _, _, _, _, _, _, rfl, _⟩ := h; rfl) | (obtain ⟨_, _, _, _, _, _, _, _, _, _, rfl, _⟩ := h; rfl) | (obtain ⟨_, _, _, _, _, _, _, _, _, _, _, rfl, _⟩ := h; rfl) | (obtain ⟨_, _, _, _, _, _, _, _, _, _, _, _, rfl, _⟩ := h; rfl) | (obtain ⟨_, _, _, _, _, _, _, _, _, _, _, _, _, rfl, _⟩ := h; rfl) | (obtain ⟨_, _, _, _, _, _, _, _, _, _, _, _, _, _, rfl, _⟩ := h; rfl) | (obtain ⟨_, _, _, _, _, _, _, _, _, _, _, _, _, _, _, rfl, _⟩ := h; rfl)) h) | (obtain ⟨rfl, _⟩ := h; rfl) | (obtain ⟨_, rfl, _⟩ := h; rfl) | (obtain ⟨_, _, rfl, _⟩ := h; rfl) | (obtain ⟨_, _, _, rfl, _⟩ := h; rfl) | (obtain ⟨_, _, _, _, rfl, _⟩ := h; rfl) | (obtain ⟨_, _, _, _, _, rfl, _⟩ := h; rfl) | (obtain ⟨_, _, _, _, _, _, rfl, _⟩ := h; rfl) | (obtain ⟨_, _, _, _, _, _, _, rfl, _⟩ := h; rfl) | (obtain ⟨_, _, _, _, _, _, _, _, rfl, _⟩ := h; rfl) | (obtain ⟨_, _, _, _, _, _, _, _, _, rfl, _⟩ := h; rfl) | (obtain ⟨_, _, _, _, _, _, _, _, _, _, rfl, _⟩ := h; rfl) | (obtain ⟨_, _, _, _, _, _, _, _, _, _, _, rfl, _⟩ := h; rfl) | (obtain ⟨_, _, _, _, _, _, _, _, _, _, _, _, rfl, _⟩ := h; rfl) | (obtain ⟨_, _, _, _, _, _, _, _, _, _, _, _, _, rfl, _⟩ := h; rfl) | (obtain ⟨_, _, _, _, _, _, _, _, _, _, _, _, _, _, rfl, _⟩ := h; rfl) | (obtain ⟨_, _, _, _, _, _, _, _, _, _, _, _, _, _, _, rfl, _⟩ := h; rfl)) (fun cdv A outer s H vs Q E hr h => ⟨t_Wait_long d, ?_, pure_Wait_long  h⟩)
  exact (pss_one (ps_ret pe_int))
theorem okG_list_long (T : Txt d mg z) : (n : Nat) → FnOk P w d.K mg base CX0 (n + 1) z.f_list_long z.d_list_long ["parts"] (spN_list_long n d) ∧ FnOk P w d.K mg base CX0 (n + 1) z.f_If_long z.d_If_long ["self"] (spN_If_long n d) ∧ FnOk P w d.K mg base CX0 (n + 1) z.f_Either_long z.d_Either_long ["self"] (spN_Either_long n d) ∧ FnOk P w d.K mg base CX0 (n + 1) z.f_Try_long z.d_Try_long ["self"] (spN_Try_long n d)
  | 0 => ⟨fnok_no fun vs H Q E h => no_list_long h, fnok_no fun vs H Q E h => no_If_long h, fnok_no fun vs H Q E h => no_Either_long h, fnok_no fun vs H Q E h => no_Try_long h⟩
  | n + 1 => by
    have G_Wait_long := ok_Wait_long (P := P) (w := w) (base := base) T
    have G_Throw_long := ok_Throw_long (P := P) (w := w) (base := base) T
    have G_Put_long := ok_Put_long (P := P) (w := w) (base := base) T
    have G_Take_long := ok_Take_long (P := P) (w := w) (base := base) T
    have G_Reckon_long := ok_Reckon_long (P := P) (w := w) (base := base) T
    have G_Let_long := ok_Let_long (P := P) (w := w) (base := base) T
    have GG := okG_list_long T n
    obtain ⟨GN_list_long, GN_If_long, GN_Either_long, GN_Try_long⟩ := GG
    refine ⟨?g0, ?g1, ?g2, ?g3⟩
    case g0 =>
      refine FnOk.mono (j := n + 1 + 1) ?_ (by omega)
      refine T.F_list_long.ok sc_list_long (fun vs H Q E h => by first | (exact lift_len (fun ds W Q h => by first | (obtain ⟨rfl, _⟩ := h; rfl) | (obtain ⟨_, rfl, _⟩ := h; rfl) | (obtain ⟨_, _, rfl, _⟩ := h; rfl) | (obtain ⟨_, _, _, rfl, _⟩ := h; rfl) | (obtain ⟨_, _, _, _, rfl, _⟩ := h; rfl) | (obtain ⟨_, _, _, _, _, rfl, _⟩ := h; rfl) | (obtain ⟨_, _, _, _, _, _, rfl, _⟩ := h; rfl) | (obtain ⟨_, _, _, _, _, _, _, rfl, _⟩ := h; rfl) | (obtain ⟨_, _, _, _, _, _, _, _, rfl, _⟩ := h; rfl) | (obtain ⟨_, _, _, _, _, _, _, _, _, rfl, _⟩ := h; rfl) | (obtain ⟨_, _, _, _, _, _, _, _, _, _, rfl, _⟩ := h; rfl) | (obtain ⟨_, _, _, _, _, _, _, _, _, _, _, rfl, _⟩ := h; rfl) | (obtain ⟨_, _, _, _, _, _, _, _, _, _, _, _, rfl, _⟩ := h; rfl) | (obtain ⟨_, _, _, _, _, _, _, _, _, _, _, _, _, rfl, _⟩ := h; rfl) | (obtain ⟨_, _, _, _, _, _, _, _, _, _, _, _, _, _, rfl, _⟩ := h; rfl) | (obtain ⟨_, _, _, _, _, _, _, _, _, _, _, _, _, _, _, rfl, _⟩ := h; rfl)) h) | (obtain ⟨rfl, _⟩ := h; rfl) | (obtain ⟨_, rfl, _⟩ := h; rfl) | (obtain ⟨_, _, rfl, _⟩ := h; rfl) | (obtain ⟨_, _, _, rfl, _⟩ := h; rfl) | (obtain ⟨_, _, _, _, rfl, _⟩ := h; rfl) | (obtain ⟨_, _, _, _, _, rfl, _⟩ := h; rfl) | (obtain ⟨_, _, _, _, _, _, rfl, _⟩ := h; rfl) | (obtain ⟨_, _, _, _, _, _, _, rfl, _⟩ := h; rfl) | (obtain ⟨_, _, _, _, _, _, _, _, rfl, _⟩ := h; rfl) | (obtain ⟨_, _, _, _, _, _, _, _, _, rfl, _⟩ := h; rfl) | (obtain ⟨_, _, _, _, _, _, _, _, _, _, rfl, _⟩ := h; rfl) | (obtain ⟨_, _, _, _, _, _, _, _, _, _, _, rfl, _⟩ := h; rfl) | (obtain ⟨_, _, _, _, _, _, _, _, _, _, _, _, rfl, _⟩ := h; rfl) | (obtain ⟨_, _, _, _, _, _, _, _, _, _, _, _, _, rfl, _⟩ := h; rfl) | (obtain ⟨_, _, _, _, _, _, _, _, _, _, _, _, _, _, rfl, _⟩ := h; rfl) | (obtain ⟨_, _, _, _, _, _, _, _, _, _, _, _, _, _, _, rfl, _⟩ := h; rfl)) (fun cdv A outer s H vs Q E hr h => ⟨t_list_long n d, ?_, pure_list_long  h⟩)
      exact (pss_one (ps_ret (pe_callB (cr_sum rfl) (by rfl) T.b_sum (by decide +kernel) (pa_cons (pe_lc (own := [("part", 1)]) rfl sc_list_long.nd (pi_list (pv 0)) (blkOk_by (own := [("part", 1)]) (N := N_list_long) (sc := (defScope s_list_long)) (by decide +kernel)) (fun _ _ _ _ _ => (pg_name (i := 1) sc_list_long.nd rfl (Or.inl rfl))) (fun _ _ _ _ _ => pts_nil) (fun _ _ _ _ _ => (pe_alt (pe_meth0 (pv 1) (show Cls d.K d.cLet from T.t_Parts.cl .let_) T.M_Let_long G_Let_long (hr.mono (by omega)) T.B_Let_long .nil pass0) (pe_alt (pe_meth0 (pv 1) (show Cls d.K d.cReckon from T.t_Parts.cl .rk) T.M_Reckon_long G_Reckon_long (hr.mono (by omega)) T.B_Reckon_long .nil pass0) (pe_alt (pe_meth0 (pv 1) (show Cls d.K d.cTake from T.t_Parts.cl .take) T.M_Take_long G_Take_long (hr.mono (by omega)) T.B_Take_long .nil pass0) (pe_alt (pe_meth0 (pv 1) (show Cls d.K d.cPut from T.t_Parts.cl .put) T.M_Put_long G_Put_long (hr.mono (by omega)) T.B_Put_long .nil pass0) (pe_alt (pe_meth0 (pv 1) (show Cls d.K d.cIf from T.t_Parts.cl .iff) T.M_If_long GN_If_long (hr.mono (by omega)) T.B_If_long .nil pass0) (pe_alt (pe_meth0 (pv 1) (show Cls d.K d.cEither from T.t_Parts.cl .eith) T.M_Either_long GN_Either_long (hr.mono (by omega)) T.B_Either_long .nil pass0) (pe_alt (pe_meth0 (pv 1) (show Cls d.K d.cTry from T.t_Parts.cl .tryy) T.M_Try_long GN_Try_long (hr.mono (by omega)) T.B_Try_long .nil pass0) (pe_alt (pe_meth0 (pv 1) (show Cls d.K d.cThrow from T.t_Parts.cl .throw) T.M_Throw_long G_Throw_long (hr.mono (by omega)) T.B_Throw_long .nil pass0) (pe_meth0 (pv 1) (show Cls d.K d.cWait from T.t_Parts.cl .wait) T.M_Wait_long G_Wait_long (hr.mono (by omega)) T.B_Wait_long .nil pass0))))))))))) pa_nil))))
    case g1 =>
      refine FnOk.mono (j := n + 1 + 1) ?_ (by omega)
      refine T.F_If_long.ok sc_If_long (fun vs H Q E h => by first | (exact lift_len (fun ds W Q h => by first | (obtain ⟨rfl, _⟩ := h; rfl) | (obtain ⟨_, rfl, _⟩ := h; rfl) | (obtain ⟨_, _, rfl, _⟩ := h; rfl) | (obtain ⟨_, _, _, rfl, _⟩ := h; rfl) | (obtain ⟨_, _, _, _, rfl, _⟩ := h; rfl) | (obtain ⟨_, _, _, _, _, rfl, _⟩ := h; rfl) | (obtain ⟨_, _, _, _, _, _, rfl, _⟩ := h; rfl) | (obtain ⟨_, _, _, _, _, _, _, rfl, _⟩ := h; rfl) | (obtain ⟨_, _, _, _, _, _, _, _, rfl, _⟩ := h; rfl) | (obtain ⟨_, _, _, _, _, _, _, _, _, rfl, _⟩ := h; rfl) | (obtain ⟨_, _, _, _, _, _, _, _, _, _, rfl, _⟩ := h; rfl) | (obtain ⟨_, _, _, _, _, _, _, _, _, _, _, rfl, _⟩ := h; rfl) | (obtain ⟨_, _, _, _, _, _, _, _, _, _, _, _, rfl, _⟩ := h; rfl) | (obtain ⟨_, _, _, _, _, _, _, _, _, _, _, _, _, rfl, _⟩ := h; rfl) | (obtain ⟨_, _, _, _, _, _, _, _, _, _, _, _, _, _, rfl, _⟩ := h; rfl) | (obtain ⟨_, _, _, _, _, _, _, _, _, _, _, _, _, _, _, rfl, _⟩ := h; rfl)) h) | (obtain ⟨rfl, _⟩ := h; rfl) | (obtain ⟨_, rfl, _⟩ := h; rfl) | (obtain ⟨_, _, rfl, _⟩ := h; rfl) | (obtain ⟨_, _, _, rfl, _⟩ := h; rfl) | (obtain ⟨_, _, _, _, rfl, _⟩ := h; rfl) | (obtain ⟨_, _, _, _, _, rfl, _⟩ := h; rfl) | (obtain ⟨_, _, _, _, _, _, rfl, _⟩ := h; rfl) | (obtain ⟨_, _, _, _, _, _, _, rfl, _⟩ := h; rfl) | (obtain ⟨_, _, _, _, _, _, _, _, rfl, _⟩ := h; rfl) | (obtain ⟨_, _, _, _, _, _, _, _, _, rfl, _⟩ := h; rfl) | (obtain ⟨_, _, _, _, _, _, _, _, _, _, rfl, _⟩ := h; rfl) | (obtain ⟨_, _, _, _, _, _, _, _, _, _, _, rfl, _⟩ := h; rfl) | (obtain ⟨_, _, _, _, _, _, _, _, _, _, _, _, rfl, _⟩ := h; rfl) | (obtain ⟨_, _, _, _, _, _, _, _, _, _, _, _, _, rfl, _⟩ := h; rfl) | (obtain ⟨_, _, _, _, _, _, _, _, _, _, _, _, _, _, rfl, _⟩ := h; rfl) | (obtain ⟨_, _, _, _, _, _, _, _, _, _, _, _, _, _, _, rfl, _⟩ := h; rfl)) (fun cdv A outer s H vs Q E hr h => ⟨t_If_long n d, ?_, pure_If_long T.t_Parts h⟩)
      exact (pss_one (ps_ret (pe_op op_add (pe_op op_add pe_int (pe_call GN_list_long (hr.mono (by omega)) rfl T.m_list_long T.F_list_long.kp T.B_list_long .nil pass0 (pa_cons (pe_fld (pv 0) rfl) pa_nil))) (pe_call GN_list_long (hr.mono (by omega)) rfl T.m_list_long T.F_list_long.kp T.B_list_long .nil pass0 (pa_cons (pe_fld (pv 0) rfl) pa_nil)))))
    case g2 =>
      refine FnOk.mono (j := n + 1 + 1) ?_ (by omega)
      refine T.F_Either_long.ok sc_Either_long (fun vs H Q E h => by first | (exact lift_len (fun ds W Q h => by first | (obtain ⟨rfl, _⟩ := h; rfl) | (obtain ⟨_, rfl, _⟩ := h; rfl) | (obtain ⟨_, _, rfl, _⟩ := h; rfl) | (obtain ⟨_, _, _, rfl, _⟩ := h; rfl) | (obtain ⟨_, _, _, _, rfl, _⟩ := h; rfl) | (obtain ⟨_, _, _, _, _, rfl, _⟩ := h; rfl) | (obtain ⟨_, _, _, _, _, _, rfl, _⟩ := h; rfl) | (obtain ⟨_, _, _, _, _, _, _, rfl, _⟩ := h; rfl) | (obtain ⟨_, _, _, _, _, _, _, _, rfl, _⟩ := h; rfl) | (obtain ⟨_, _, _, _, _, _, _, _, _, rfl, _⟩ := h; rfl) | (obtain ⟨_, _, _, _, _, _, _, _, _, _, rfl, _⟩ := h; rfl) | (obtain ⟨_, _, _, _, _, _, _, _, _, _, _, rfl, _⟩ := h; rfl) | (obtain ⟨_, _, _, _, _, _, _, _, _, _, _, _, rfl, _⟩ := h; rfl) | (obtain ⟨_, _, _, _, _, _, _, _, _, _, _, _, _, rfl, _⟩ := h; rfl) | (obtain ⟨_, _, _, _, _, _, _, _, _, _, _, _, _, _, rfl, _⟩ := h; rfl) | (obtain ⟨_, _, _, _, _, _, _, _, _, _, _, _, _, _, _, rfl, _⟩ := h; rfl)) h) | (obtain ⟨rfl, _⟩ := h; rfl) | (obtain ⟨_, rfl, _⟩ := h; rfl) | (obtain ⟨_, _, rfl, _⟩ := h; rfl) | (obtain ⟨_, _, _, rfl, _⟩ := h; rfl) | (obtain ⟨_, _, _, _, rfl, _⟩ := h; rfl) | (obtain ⟨_, _, _, _, _, rfl, _⟩ := h; rfl) | (obtain ⟨_, _, _, _, _, _, rfl, _⟩ := h; rfl) | (obtain ⟨_, _, _, _, _, _, _, rfl, _⟩ := h; rfl) | (obtain ⟨_, _, _, _, _, _, _, _, rfl, _⟩ := h; rfl) | (obtain ⟨_, _, _, _, _, _, _, _, _, rfl, _⟩ := h; rfl) | (obtain ⟨_, _, _, _, _, _, _, _, _, _, rfl, _⟩ := h; rfl) | (obtain ⟨_, _, _, _, _, _, _, _, _, _, _, rfl, _⟩ := h; rfl) | (obtain ⟨_, _, _, _, _, _, _, _, _, _, _, _, rfl, _⟩ := h; rfl) | (obtain ⟨_, _, _, _, _, _, _, _, _, _, _, _, _, rfl, _⟩ := h; rfl) | (obtain ⟨_, _, _, _, _, _, _, _, _, _, _, _, _, _, rfl, _⟩ := h; rfl) | (obtain ⟨_, _, _, _, _, _, _, _, _, _, _, _, _, _, _, rfl, _⟩ := h; rfl)) (fun cdv A outer s H vs Q E hr h => ⟨t_Either_long n d, ?_, pure_Either_long T.t_Parts h⟩)
      exact (pss_one (ps_ret (pe_op op_add (pe_op op_add pe_int (pe_call GN_list_long (hr.mono (by omega)) rfl T.m_list_long T.F_list_long.kp T.B_list_long .nil pass0 (pa_cons (pe_fld (pv 0) rfl) pa_nil))) (pe_call GN_list_long (hr.mono (by omega)) rfl T.m_list_long T.F_list_long.kp T.B_list_long .nil pass0 (pa_cons (pe_fld (pv 0) rfl) pa_nil)))))
    case g3 =>
      refine FnOk.mono (j := n + 1 + 1) ?_ (by omega)
      refine T.F_Try_long.ok sc_Try_long (fun vs H Q E h => by first | (exact lift_len (fun ds W Q h => by first | (obtain ⟨rfl, _⟩ := h; rfl) | (obtain ⟨_, rfl, _⟩ := h; rfl) | (obtain ⟨_, _, rfl, _⟩ := h; rfl) | (obtain ⟨_, _, _, rfl, _⟩ := h; rfl) | (obtain ⟨_, _, _, _, rfl, _⟩ := h; rfl) | (obtain ⟨_, _, _, _, _, rfl, _⟩ := h; rfl) | (obtain ⟨_, _, _, _, _, _, rfl, _⟩ := h; rfl) | (obtain ⟨_, _, _, _, _, _, _, rfl, _⟩ := h; rfl) | (obtain ⟨_, _, _, _, _, _, _, _, rfl, _⟩ := h; rfl) | (obtain ⟨_, _, _, _, _, _, _, _, _, rfl, _⟩ := h; rfl) | (obtain ⟨_, _, _, _, _, _, _, _, _, _, rfl, _⟩ := h; rfl) | (obtain ⟨_, _, _, _, _, _, _, _, _, _, _, rfl, _⟩ := h; rfl) | (obtain ⟨_, _, _, _, _, _, _, _, _, _, _, _, rfl, _⟩ := h; rfl) | (obtain ⟨_, _, _, _, _, _, _, _, _, _, _, _, _, rfl, _⟩ := h; rfl) | (obtain ⟨_, _, _, _, _, _, _, _, _, _, _, _, _, _, rfl, _⟩ := h; rfl) | (obtain ⟨_, _, _, _, _, _, _, _, _, _, _, _, _, _, _, rfl, _⟩ := h; rfl)) h) | (obtain ⟨rfl, _⟩ := h; rfl) | (obtain ⟨_, rfl, _⟩ := h; rfl) | (obtain ⟨_, _, rfl, _⟩ := h; rfl) | (obtain ⟨_, _, _, rfl, _⟩ := h; rfl) | (obtain ⟨_, _, _, _, rfl, _⟩ := h; rfl) | (obtain ⟨_, _, _, _, _, rfl, _⟩ := h; rfl) | (obtain ⟨_, _, _, _, _, _, rfl, _⟩ := h; rfl) | (obtain ⟨_, _, _, _, _, _, _, rfl, _⟩ := h; rfl) | (obtain ⟨_, _, _, _, _, _, _, _, rfl, _⟩ := h; rfl) | (obtain ⟨_, _, _, _, _, _, _, _, _, rfl, _⟩ := h; rfl) | (obtain ⟨_, _, _, _, _, _, _, _, _, _, rfl, _⟩ := h; rfl) | (obtain ⟨_, _, _, _, _, _, _, _, _, _, _, rfl, _⟩ := h; rfl) | (obtain ⟨_, _, _, _, _, _, _, _, _, _, _, _, rfl, _⟩ := h; rfl) | (obtain ⟨_, _, _, _, _, _, _, _, _, _, _, _, _, rfl, _⟩ := h; rfl) | (obtain ⟨_, _, _, _, _, _, _, _, _, _, _, _, _, _, rfl, _⟩ := h; rfl) | (obtain ⟨_, _, _, _, _, _, _, _, _, _, _, _, _, _, _, rfl, _⟩ := h; rfl)) (fun cdv A outer s H vs Q E hr h => ⟨t_Try_long n d, ?_, pure_Try_long T.t_Parts h⟩)
      exact (pss_one (ps_ret (pe_op op_add (pe_op op_add pe_int (pe_call GN_list_long (hr.mono (by omega)) rfl T.m_list_long T.F_list_long.kp T.B_list_long .nil pass0 (pa_cons (pe_fld (pv 0) rfl) pa_nil))) (pe_call GN_list_long (hr.mono (by omega)) rfl T.m_list_long T.F_list_long.kp T.B_list_long .nil pass0 (pa_cons (pe_fld (pv 0) rfl) pa_nil)))))
theorem ok_list_long (T : Txt d mg z) : FnOk P w d.K mg base CX0 (41) z.f_list_long z.d_list_long ["parts"] (sp_list_long d) := (okG_list_long T 40).1
theorem ok_If_long (T : Txt d mg z) : FnOk P w d.K mg base CX0 (41) z.f_If_long z.d_If_long ["self"] (sp_If_long d) := (okG_list_long T 40).2.1
theorem ok_Either_long (T : Txt d mg z) : FnOk P w d.K mg base CX0 (41) z.f_Either_long z.d_Either_long ["self"] (sp_Either_long d) := (okG_list_long T 40).2.2.1
theorem ok_Try_long (T : Txt d mg z) : FnOk P w d.K mg base CX0 (41) z.f_Try_long z.d_Try_long ["self"] (sp_Try_long d) := (okG_list_long T 40).2.2.2
theorem ok_Let_shown (T : Txt d mg z) : FnOk P w d.K mg base CX0 1 z.f_Let_shown z.d_Let_shown ["self"] (sp_Let_shown d) := by
  refine T.F_Let_shown.ok sc_Let_shown (fun vs H Q E h => by first | (exact lift_len (fun ds W Q h => by first | (obtain ⟨rfl, _⟩ := h; rfl) | (obtain ⟨_, rfl, _⟩ := h; rfl) | (obtain ⟨_, _, rfl, _⟩ := h; rfl) | (obtain ⟨_, _, _, rfl, _⟩ := h; rfl) | (obtain ⟨_, _, _, _, rfl, _⟩ := h; rfl) | (obtain ⟨_, _, _, _, _, rfl, _⟩ := h; rfl) | (obtain ⟨_, _, _, _, _, _, rfl, _⟩ := h; rfl) | (obtain ⟨_, _, _, _, _, _, _, rfl, _⟩ := h; rfl) | (obtain ⟨_, _, _, _, _, _, _, _, rfl, _⟩ := h; rfl) | (obtain ⟨_, _, _, _, _, _, _, _, _, rfl, _⟩ := h; rfl) | (obtain ⟨_, _, _, _, _, _, _, _, _, _, rfl, _⟩ := h; rfl) | (obtain ⟨_, _, _, _, _, _, _, _, _, _, _, rfl, _⟩ := h; rfl) | (obtain ⟨_, _, _, _, _, _, _, _, _, _, _, _, rfl, _⟩ := h; rfl) | (obtain ⟨_, _, _, _, _, _, _, _, _, _, _, _, _, rfl, _⟩ := h; rfl) | (obtain ⟨_, _, _, _, _, _, _, _, _, _, _, _, _, _, rfl, _⟩ := h; rfl) | (obtain ⟨_, _, _, _, _, _, _, _, _, _, _, _, _, _, _, rfl, _⟩ := h; rfl)) h) | (obtain ⟨rfl, _⟩ := h; rfl) | (obtain ⟨_, rfl, _⟩ := h; rfl) | (obtain ⟨_, _, rfl, _⟩ := h; rfl) | (obtain ⟨_, _, _, rfl, _⟩ := h; rfl) | (obtain ⟨_, _, _, _, rfl, _⟩ := h; rfl) | (obtain ⟨_, _, _, _, _, rfl, _⟩ := h; rfl) | (obtain ⟨_, _, _, _, _, _, rfl, _⟩ := h; rfl) | (obtain ⟨_, _, _, _, _, _, _, rfl, _⟩ := h; rfl) | (obtain ⟨_, _, _, _, _, _, _, _, rfl, _⟩ := h; rfl) | (obtain ⟨_, _, _, _, _, _, _, _, _, rfl, _⟩ := h; rfl) | (obtain ⟨_, _, _, _, _, _, _, _, _, _, rfl, _⟩ := h; rfl) | (obtain ⟨_, _, _, _, _, _, _, _, _, _, _, rfl, _⟩ := h; rfl) | (obtain ⟨_, _, _, _, _, _, _, _, _, _, _, _, rfl, _⟩ := h; rfl) | (obtain ⟨_, _, _, _, _, _, _, _, _, _, _, _, _, rfl, _⟩ := h; rfl) | (obtain ⟨_, _, _, _, _, _, _, _, _, _, _, _, _, _, rfl, _⟩ := h; rfl) | (obtain ⟨_, _, _, _, _, _, _, _, _, _, _, _, _, _, _, rfl, _⟩ := h; rfl)) (fun cdv A outer s H vs Q E hr h => ⟨t_Let_shown d, ?_, pure_Let_shown T.t_Parts h⟩)
  exact (pss_one (ps_ret (pe_join pe_str (pe_lst (pa_cons pe_str (pa_cons (pe_fld (pv 0) rfl) (pa_cons (pe_callTy call_str_int (by rfl) T.b_str (by decide +kernel) (pa_cons (pe_fld (pv 0) rfl) pa_nil)) pa_nil)))))))
theorem ok_Reckon_shown (T : Txt d mg z) : FnOk P w d.K mg base CX0 1 z.f_Reckon_shown z.d_Reckon_shown ["self"] (sp_Reckon_shown d) := by
  refine T.F_Reckon_shown.ok sc_Reckon_shown (fun vs H Q E h => by first | (exact lift_len (fun ds W Q h => by first | (obtain ⟨rfl, _⟩ := h; rfl) | (obtain ⟨_, rfl, _⟩ := h; rfl) | (obtain ⟨_, _, rfl, _⟩ := h; rfl) | (obtain ⟨_, _, _, rfl, _⟩ := h; rfl) | (obtain ⟨_, _, _, _, rfl, _⟩ := h; rfl) | (obtain ⟨_, _, _, _, _, rfl, _⟩ := h; rfl) | (obtain ⟨_, _, _, _, _, _, rfl, _⟩ := h; rfl) | (obtain ⟨_, _, _, _, _, _, _, rfl, _⟩ := h; rfl) | (obtain ⟨_, _, _, _, _, _, _, _, rfl, _⟩ := h; rfl) | (obtain ⟨_, _, _, _, _, _, _, _, _, rfl, _⟩ := h; rfl) | (obtain ⟨_, _, _, _, _, _, _, _, _, _, rfl, _⟩ := h; rfl) | (obtain ⟨_, _, _, _, _, _, _, _, _, _, _, rfl, _⟩ := h; rfl) | (obtain ⟨_, _, _, _, _, _, _, _, _, _, _, _, rfl, _⟩ := h; rfl) | (obtain ⟨_, _, _, _, _, _, _, _, _, _, _, _, _, rfl, _⟩ := h; rfl) | (obtain ⟨_, _, _, _, _, _, _, _, _, _, _, _, _, _, rfl, _⟩ := h; rfl) | (obtain ⟨_, _, _, _, _, _, _, _, _, _, _, _, _, _, _, rfl, _⟩ := h; rfl)) h) | (obtain ⟨rfl, _⟩ := h; rfl) | (obtain ⟨_, rfl, _⟩ := h; rfl) | (obtain ⟨_, _, rfl, _⟩ := h; rfl) | (obtain ⟨_, _, _, rfl, _⟩ := h; rfl) | (obtain ⟨_, _, _, _, rfl, _⟩ := h; rfl) | (obtain ⟨_, _, _, _, _, rfl, _⟩ := h; rfl) | (obtain ⟨_, _, _, _, _, _, rfl, _⟩ := h; rfl) | (obtain ⟨_, _, _, _, _, _, _, rfl, _⟩ := h; rfl) | (obtain ⟨_, _, _, _, _, _, _, _, rfl, _⟩ := h; rfl) | (obtain ⟨_, _, _, _, _, _, _, _, _, rfl, _⟩ := h; rfl) | (obtain ⟨_, _, _, _, _, _, _, _, _, _, rfl, _⟩ := h; rfl) | (obtain ⟨_, _, _, _, _, _, _, _, _, _, _, rfl, _⟩ := h; rfl) | (obtain ⟨_, _, _, _, _, _, _, _, _, _, _, _, rfl, _⟩ := h; rfl) | (obtain ⟨_, _, _, _, _, _, _, _, _, _, _, _, _, rfl, _⟩ := h; rfl) | (obtain ⟨_, _, _, _, _, _, _, _, _, _, _, _, _, _, rfl, _⟩ := h; rfl) | (obtain ⟨_, _, _, _, _, _, _, _, _, _, _, _, _, _, _, rfl, _⟩ := h; rfl)) (fun cdv A outer s H vs Q E hr h => ⟨t_Reckon_shown d, ?_, pure_Reckon_shown T.t_Parts h⟩)
  exact (pss_one (ps_ret (pe_join pe_str (pe_lst (pa_cons (pe_fld (pv 0) rfl) (pa_cons (pe_fld (pv 0) rfl) (pa_cons (pe_fld (pv 0) rfl) (pa_cons (pe_fld (pv 0) rfl) pa_nil))))))))
theorem ok_Take_shown (T : Txt d mg z) : FnOk P w d.K mg base CX0 1 z.f_Take_shown z.d_Take_shown ["self"] (sp_Take_shown d) := by
  refine T.F_Take_shown.ok sc_Take_shown (fun vs H Q E h => by first | (exact lift_len (fun ds W Q h => by first | (obtain ⟨rfl, _⟩ := h; rfl) | (obtain ⟨_, rfl, _⟩ := h; rfl) | (obtain ⟨_, _, rfl, _⟩ := h; rfl) | (obtain ⟨_, _, _, rfl, _⟩ := h; rfl) | (obtain ⟨_, _, _, _, rfl, _⟩ := h; rfl) | (obtain ⟨_, _, _, _, _, rfl, _⟩ := h; rfl) | (obtain ⟨_, _, _, _, _, _, rfl, _⟩ := h; rfl) | (obtain ⟨_, _, _, _, _, _, _, rfl, _⟩ := h; rfl) | (obtain ⟨_, _, _, _, _, _, _, _, rfl, _⟩ := h; rfl) | (obtain ⟨_, _, _, _, _, _, _, _, _, rfl, _⟩ := h; rfl) | (obtain ⟨_, _, _, _, _, _, _, _, _, _, rfl, _⟩ := h; rfl) | (obtain ⟨_, _, _, _, _, _, _, _, _, _, _, rfl, _⟩ := h; rfl) | (obtain ⟨_, _, _, _, _, _, _, _, _, _, _, _, rfl, _⟩ := h; rfl) | (obtain ⟨_, _, _, _, _, _, _, _, _, _, _, _, _, rfl, _⟩ := h; rfl) | (obtain ⟨_, _, _, _, _, _, _, _, _, _, _, _, _, _, rfl, _⟩ := h; rfl) | (obtain ⟨_, _, _, _, _, _, _, _, _, _, _, _, _, _, _, rfl, _⟩ := h; rfl)) h) | (obtain ⟨rfl, _⟩ := h; rfl) | (obtain ⟨_, rfl, _⟩ := h; rfl) | (obtain ⟨_, _, rfl, _⟩ := h; rfl) | (obtain ⟨_, _, _, rfl, _⟩ := h; rfl) | (obtain ⟨_, _, _, _, rfl, _⟩ := h; rfl) | (obtain ⟨_, _, _, _, _, rfl, _⟩ := h; rfl) | (obtain ⟨_, _, _, _, _, _, rfl, _⟩ := h; rfl) | (obtain ⟨_, _, _, _, _, _, _, rfl, _⟩ := h; rfl) | (obtain ⟨_, _, _, _, _, _, _, _, rfl, _⟩ := h; rfl) | (obtain ⟨_, _, _, _, _, _, _, _, _, rfl, _⟩ := h; rfl) | (obtain ⟨_, _, _, _, _, _, _, _, _, _, rfl, _⟩ := h; rfl) | (obtain ⟨_, _, _, _, _, _, _, _, _, _, _, rfl, _⟩ := h; rfl) | (obtain ⟨_, _, _, _, _, _, _, _, _, _, _, _, rfl, _⟩ := h; rfl) | (obtain ⟨_, _, _, _, _, _, _, _, _, _, _, _, _, rfl, _⟩ := h; rfl) | (obtain ⟨_, _, _, _, _, _, _, _, _, _, _, _, _, _, rfl, _⟩ := h; rfl) | (obtain ⟨_, _, _, _, _, _, _, _, _, _, _, _, _, _, _, rfl, _⟩ := h; rfl)) (fun cdv A outer s H vs Q E hr h => ⟨t_Take_shown d, ?_, pure_Take_shown T.t_Parts h⟩)
  exact (pss_one (ps_ret (pe_join pe_str (pe_lst (pa_cons pe_str (pa_cons (pe_fld (pv 0) rfl) (pa_cons (pe_fld (pv 0) rfl) pa_nil)))))))
theorem ok_Put_shown (T : Txt d mg z) : FnOk P w d.K mg base CX0 1 z.f_Put_shown z.d_Put_shown ["self"] (sp_Put_shown d) := by
  refine T.F_Put_shown.ok sc_Put_shown (fun vs H Q E h => by first | (exact lift_len (fun ds W Q h => by first | (obtain ⟨rfl, _⟩ := h; rfl) | (obtain ⟨_, rfl, _⟩ := h; rfl) | (obtain ⟨_, _, rfl, _⟩ := h; rfl) | (obtain ⟨_, _, _, rfl, _⟩ := h; rfl) | (obtain ⟨_, _, _, _, rfl, _⟩ := h; rfl) | (obtain ⟨_, _, _, _, _, rfl, _⟩ := h; rfl) | (obtain ⟨_, _, _, _, _, _, rfl, _⟩ := h; rfl) | (obtain ⟨_, _, _, _, _, _, _, rfl, _⟩ := h; rfl) | (obtain ⟨_, _, _, _, _, _, _, _, rfl, _⟩ := h; rfl) | (obtain ⟨_, _, _, _, _, _, _, _, _, rfl, _⟩ := h; rfl) | (obtain ⟨_, _, _, _, _, _, _, _, _, _, rfl, _⟩ := h; rfl) | (obtain ⟨_, _, _, _, _, _, _, _, _, _, _, rfl, _⟩ := h; rfl) | (obtain ⟨_, _, _, _, _, _, _, _, _, _, _, _, rfl, _⟩ := h; rfl) | (obtain ⟨_, _, _, _, _, _, _, _, _, _, _, _, _, rfl, _⟩ := h; rfl) | (obtain ⟨_, _, _, _, _, _, _, _, _, _, _, _, _, _, rfl, _⟩ := h; rfl) | (obtain ⟨_, _, _, _, _, _, _, _, _, _, _, _, _, _, _, rfl, _⟩ := h; rfl)) h) | (obtain ⟨rfl, _⟩ := h; rfl) | (obtain ⟨_, rfl, _⟩ := h; rfl) | (obtain ⟨_, _, rfl, _⟩ := h; rfl) | (obtain ⟨_, _, _, rfl, _⟩ := h; rfl) | (obtain ⟨_, _, _, _, rfl, _⟩ := h; rfl) | (obtain ⟨_, _, _, _, _, rfl, _⟩ := h; rfl) | (obtain ⟨_, _, _, _, _, _, rfl, _⟩ := h; rfl) | (obtain ⟨_, _, _, _, _, _, _, rfl, _⟩ := h; rfl) | (obtain ⟨_, _, _, _, _, _, _, _, rfl, _⟩ := h; rfl) | (obtain ⟨_, _, _, _, _, _, _, _, _, rfl, _⟩ := h; rfl) | (obtain ⟨_, _, _, _, _, _, _, _, _, _, rfl, _⟩ := h; rfl) | (obtain ⟨_, _, _, _, _, _, _, _, _, _, _, rfl, _⟩ := h; rfl) | (obtain ⟨_, _, _, _, _, _, _, _, _, _, _, _, rfl, _⟩ := h; rfl) | (obtain ⟨_, _, _, _, _, _, _, _, _, _, _, _, _, rfl, _⟩ := h; rfl) | (obtain ⟨_, _, _, _, _, _, _, _, _, _, _, _, _, _, rfl, _⟩ := h; rfl) | (obtain ⟨_, _, _, _, _, _, _, _, _, _, _, _, _, _, _, rfl, _⟩ := h; rfl)) (fun cdv A outer s H vs Q E hr h => ⟨t_Put_shown d, ?_, pure_Put_shown T.t_Parts h⟩)
  exact (pss_one (ps_ret (pe_join pe_str (pe_lst (pa_cons pe_str (pa_cons (pe_fld (pv 0) rfl) (pa_cons (pe_fld (pv 0) rfl) pa_nil)))))))
theorem ok_Throw_shown (T : Txt d mg z) : FnOk P w d.K mg base CX0 1 z.f_Throw_shown z.d_Throw_shown ["self"] (sp_Throw_shown d) := by
  refine T.F_Throw_shown.ok sc_Throw_shown (fun vs H Q E h => by first | (exact lift_len (fun ds W Q h => by first | (obtain ⟨rfl, _⟩ := h; rfl) | (obtain ⟨_, rfl, _⟩ := h; rfl) | (obtain ⟨_, _, rfl, _⟩ := h; rfl) | (obtain ⟨_, _, _, rfl, _⟩ := h; rfl) | (obtain ⟨_, _, _, _, rfl, _⟩ := h; rfl) | (obtain ⟨_, _, _, _, _, rfl, _⟩ := h; rfl) | (obtain ⟨_, _, _, _, _, _, rfl, _⟩ := h; rfl) | (obtain ⟨_, _, _, _, _, _, _, rfl, _⟩ := h; rfl) | (obtain ⟨_, _, _, _, _, _, _, _, rfl, _⟩ := h; rfl) | (obtain ⟨_, _, _, _, _, _, _, _, _, rfl, _⟩ := h; rfl) | (obtain ⟨_, _, _, _, _, _, _, _, _, _, rfl, _⟩ := h; rfl) | (obtain ⟨_, _, _, _, _, _, _, _, _, _, _, rfl, _⟩ := h; rfl) | (obtain ⟨_, _, _, _, _, _, _, _, _, _, _, _, rfl, _⟩ := h; rfl) | (obtain ⟨_, _, _, _, _, _, _, _, _, _, _, _, _, rfl, _⟩ := h; rfl) | (obtain ⟨_, _, _, _, _, _, _, _, _, _, _, _, _, _, rfl, _⟩ := h; rfl) | (obtain ⟨_, _, _, _, _, _, _, _, _, _, _, _, _, _, _, rfl, _⟩ := h; rfl)) h) | (obtain ⟨rfl, _⟩ := h; rfl) | (obtain ⟨_, rfl, _⟩ := h; rfl) | (obtain ⟨_, _, rfl, _⟩ := h; rfl) | (obtain ⟨_, _, _, rfl, _⟩ := h; rfl) | (obtain ⟨_, _, _, _, rfl, _⟩ := h; rfl) | (obtain ⟨_, _, _, _, _, rfl, _⟩ := h; rfl) | (obtain ⟨_, _, _, _, _, _, rfl, _⟩ := h; rfl) | (obtain ⟨_, _, _, _, _, _, _, rfl, _⟩ := h; rfl) | (obtain ⟨_, _, _, _, _, _, _, _, rfl, _⟩ := h; rfl) | (obtain ⟨_, _, _, _, _, _, _, _, _, rfl, _⟩ := h; rfl) | (obtain ⟨_, _, _, _, _, _, _, _, _, _, rfl, _⟩ := h; rfl) | (obtain ⟨_, _, _, _, _, _, _, _, _, _, _, rfl, _⟩ := h; rfl) | (obtain ⟨_, _, _, _, _, _, _, _, _, _, _, _, rfl, _⟩ := h; rfl) | (obtain ⟨_, _, _, _, _, _, _, _, _, _, _, _, _, rfl, _⟩ := h; rfl) | (obtain ⟨_, _, _, _, _, _, _, _, _, _, _, _, _, _, rfl, _⟩ := h; rfl) | (obtain ⟨_, _, _, _, _, _, _, _, _, _, _, _, _, _, _, rfl, _⟩ := h; rfl)) (fun cdv A outer s H vs Q E hr h => ⟨t_Throw_shown d, ?_, pure_Throw_shown T.t_Parts h⟩)
  exact (pss_one (ps_ret (pe_join pe_str (pe_lst (pa_cons pe_str (pa_cons (pe_fld (pv 0) rfl) (pa_cons (pe_fld (pv 0) rfl) pa_nil)))))))
theorem ok_Wait_shown (T : Txt d mg z) : FnOk P w d.K mg base CX0 1 z.f_Wait_shown z.d_Wait_shown ["self"] (sp_Wait_shown d) := by
  refine T.F_Wait_shown.ok sc_Wait_shown (fun vs H Q E h => by first | (exact lift_len (fun ds W Q h => by first | (obtain ⟨rfl, _⟩ := h; rfl) | (obtain ⟨_, rfl, _⟩ := h; rfl) | (obtain ⟨_, _, rfl, _⟩ := h; rfl) | (obtain ⟨_, _, _, rfl, _⟩ := h; rfl) | (obtain ⟨_, _, _, _, rfl, _⟩ := h; rfl) | (obtain ⟨_, _, _, _, _, rfl, _⟩ := h; rfl) | (obtain ⟨_, _, _, _, _, _, rfl, _⟩ := h; rfl) | (obtain ⟨_, _, _, _, _, _, _, rfl, _⟩ := h; rfl) | (obtain ⟨_, _, _, _, _, _, _, _, rfl, _⟩ := h; rfl) | (obtain ⟨_, _, _, _, _, _, _, _, _, rfl, _⟩ := h; rfl) | (obtain ⟨_, _, _, _, _, _, _, _, _, _, rfl, _⟩ := h; rfl) | (obtain ⟨_, _, _, _, _, _, _, _, _, _, _, rfl, _⟩ := h; rfl) | (obtain ⟨_, _, _, _, _, _, _, _, _, _, _, _, rfl, _⟩ := h; rfl) | (obtain ⟨_, _, _, _, _, _, _, _, _, _, _, _, _, rfl, _⟩ := h; rfl) | (obtain ⟨_, _, _, _, _, _, _, _, _, _, _, _, _, _, rfl, _⟩ := h; rfl) | (obtain ⟨_, _, _, _, _, _, _, _, _, _, _, _, _, _, _, rfl, _⟩ := h; rfl)) h) | (obtain ⟨rfl, _⟩ := h; rfl) | (obtain ⟨_, rfl, _⟩ := h; rfl) | (obtain ⟨_, _, rfl, _⟩ := h; rfl) | (obtain ⟨_, _, _, rfl, _⟩ := h; rfl) | (obtain ⟨_, _, _, _, rfl, _⟩ := h; rfl) | (obtain ⟨_, _, _, _, _, rfl, _⟩ := h; rfl) | (obtain ⟨_, _, _, _, _, _, rfl, _⟩ := h; rfl) | (obtain ⟨_, _, _, _, _, _, _, rfl, _⟩ := h; rfl) | (obtain ⟨_, _, _, _, _, _, _, _, rfl, _⟩ := h; rfl) | (obtain ⟨_, _, _, _, _, _, _, _, _, rfl, _⟩ := h; rfl) | (obtain ⟨_, _, _, _, _, _, _, _, _, _, rfl, _⟩ := h; rfl) | (obtain ⟨_, _, _, _, _, _, _, _, _, _, _, rfl, _⟩ := h; rfl) | (obtain ⟨_, _, _, _, _, _, _, _, _, _, _, _, rfl, _⟩ := h; rfl) | (obtain ⟨_, _, _, _, _, _, _, _, _, _, _, _, _, rfl, _⟩ := h; rfl) | (obtain ⟨_, _, _, _, _, _, _, _, _, _, _, _, _, _, rfl, _⟩ := h; rfl) | (obtain ⟨_, _, _, _, _, _, _, _, _, _, _, _, _, _, _, rfl, _⟩ := h; rfl)) (fun cdv A outer s H vs Q E hr h => ⟨t_Wait_shown d, ?_, pure_Wait_shown  h⟩)
  exact (pss_one (ps_ret pe_str))
theorem okG_list_shown (T : Txt d mg z) : (n : Nat) → FnOk P w d.K mg base CX0 (n + 1) z.f_list_shown z.d_list_shown ["parts"] (spN_list_shown n d) ∧ FnOk P w d.K mg base CX0 (n + 1) z.f_bracketed z.d_bracketed ["parts"] (spN_bracketed n d) ∧ FnOk P w d.K mg base CX0 (n + 1) z.f_If_shown z.d_If_shown ["self"] (spN_If_shown n d) ∧ FnOk P w d.K mg base CX0 (n + 1) z.f_Either_shown z.d_Either_shown ["self"] (spN_Either_shown n d) ∧ FnOk P w d.K mg base CX0 (n + 1) z.f_Try_shown z.d_Try_shown ["self"] (spN_Try_shown n d)
  | 0 => ⟨fnok_no fun vs H Q E h => no_list_shown h, fnok_no fun vs H Q E h => no_bracketed h, fnok_no fun vs H Q E h => no_If_shown h, fnok_no fun vs H Q E h => no_Either_shown h, fnok_no fun vs H Q E h => no_Try_shown h⟩
  | n + 1 => by
    have G_Wait_shown := ok_Wait_shown (P := P) (w := w) (base := base) T
    have G_Throw_shown := ok_Throw_shown (P := P) (w := w) (base := base) T
    have G_Put_shown := ok_Put_shown (P := P) (w := w) (base := base) T
    have G_Take_shown := ok_Take_shown (P := P) (w := w) (base := base) T
    have G_Reckon_shown := ok_Reckon_shown (P := P) (w := w) (base := base) T
    have G_Let_shown := ok_Let_shown (P := P) (w := w) (base := base) T
    have GG := okG_list_shown T n
    obtain ⟨GN_list_shown, GN_bracketed, GN_If_shown, GN_Either_shown, GN_Try_shown⟩ := GG
    refine ⟨?g0, ?g1, ?g2, ?g3, ?g4⟩
    case g0 =>
      refine FnOk.mono (j := n + 1 + 1) ?_ (by omega)
      refine T.F_list_shown.ok sc_list_shown (fun vs H Q E h => by first | (exact lift_len (fun ds W Q h => by first | (obtain ⟨rfl, _⟩ := h; rfl) | (obtain ⟨_, rfl, _⟩ := h; rfl) | (obtain ⟨_, _, rfl, _⟩ := h; rfl) | (obtain ⟨_, _, _, rfl, _⟩ := h; rfl) | (obtain ⟨_, _, _, _, rfl, _⟩ := h; rfl) | (obtain ⟨_, _, _, _, _, rfl, _⟩ := h; rfl) | (obtain ⟨_, _, _, _, _, _, rfl, _⟩ := h; rfl) | (obtain ⟨_, _, _, _, _, _, _, rfl, _⟩ := h; rfl) | (obtain ⟨_, _, _, _, _, _, _, _, rfl, _⟩ := h; rfl) | (obtain ⟨_, _, _, _, _, _, _, _, _, rfl, _⟩ := h; rfl) | (obtain ⟨_, _, _, _, _, _, _, _, _, _, rfl, _⟩ := h; rfl) | (obtain ⟨_, _, _, _, _, _, _, _, _, _, _, rfl, _⟩ := h; rfl) | (obtain ⟨_, _, _, _, _, _, _, _, _, _, _, _, rfl, _⟩ := h; rfl) | (obtain ⟨_, _, _, _, _, _, _, _, _, _, _, _, _, rfl, _⟩ := h; rfl) | (obtain ⟨_, _, _, _, _, _, _, _, _, _, _, _, _, _, rfl, _⟩ := h; rfl) | (obtain ⟨_, _, _, _, _, _, _, _, _, _, _, _, _, _, _, rfl, _⟩ := h; rfl)) h) | (obtain ⟨rfl, _⟩ := h; rfl) | (obtain ⟨_, rfl, _⟩ := h; rfl) | (obtain ⟨_, _, rfl, _⟩ := h; rfl) | (obtain ⟨_, _, _, rfl, _⟩ := h; rfl) | (obtain ⟨_, _, _, _, rfl, _⟩ := h; rfl) | (obtain ⟨_, _, _, _, _, rfl, _⟩ := h; rfl) | (obtain ⟨_, _, _, _, _, _, rfl, _⟩ := h; rfl) | (obtain ⟨_, _, _, _, _, _, _, rfl, _⟩ := h; rfl) | (obtain ⟨_, _, _, _, _, _, _, _, rfl, _⟩ := h; rfl) | (obtain ⟨_, _, _, _, _, _, _, _, _, rfl, _⟩ := h; rfl) | (obtain ⟨_, _, _, _, _, _, _, _, _, _, rfl, _⟩ := h; rfl) | (obtain ⟨_, _, _, _, _, _, _, _, _, _, _, rfl, _⟩ := h; rfl) | (obtain ⟨_, _, _, _, _, _, _, _, _, _, _, _, rfl, _⟩ := h; rfl) | (obtain ⟨_, _, _, _, _, _, _, _, _, _, _, _, _, rfl, _⟩ := h; rfl) | (obtain ⟨_, _, _, _, _, _, _, _, _, _, _, _, _, _, rfl, _⟩ := h; rfl) | (obtain ⟨_, _, _, _, _, _, _, _, _, _, _, _, _, _, _, rfl, _⟩ := h; rfl)) (fun cdv A outer s H vs Q E hr h => ⟨t_list_shown n d, ?_, pure_list_shown  h⟩)
      exact (pss_one (ps_ret (pe_join pe_str (pe_lc (own := [("part", 1)]) rfl sc_list_shown.nd (pi_list (pv 0)) (blkOk_by (own := [("part", 1)]) (N := N_list_shown) (sc := (defScope s_list_shown)) (by decide +kernel)) (fun _ _ _ _ _ => (pg_name (i := 1) sc_list_shown.nd rfl (Or.inl rfl))) (fun _ _ _ _ _ => pts_nil) (fun _ _ _ _ _ => (pe_alt (pe_meth0 (pv 1) (show Cls d.K d.cLet from T.t_Parts.cl .let_) T.M_Let_shown G_Let_shown (hr.mono (by omega)) T.B_Let_shown .nil pass0) (pe_alt (pe_meth0 (pv 1) (show Cls d.K d.cReckon from T.t_Parts.cl .rk) T.M_Reckon_shown G_Reckon_shown (hr.mono (by omega)) T.B_Reckon_shown .nil pass0) (pe_alt (pe_meth0 (pv 1) (show Cls d.K d.cTake from T.t_Parts.cl .take) T.M_Take_shown G_Take_shown (hr.mono (by omega)) T.B_Take_shown .nil pass0) (pe_alt (pe_meth0 (pv 1) (show Cls d.K d.cPut from T.t_Parts.cl .put) T.M_Put_shown G_Put_shown (hr.mono (by omega)) T.B_Put_shown .nil pass0) (pe_alt (pe_meth0 (pv 1) (show Cls d.K d.cIf from T.t_Parts.cl .iff) T.M_If_shown GN_If_shown (hr.mono (by omega)) T.B_If_shown .nil pass0) (pe_alt (pe_meth0 (pv 1) (show Cls d.K d.cEither from T.t_Parts.cl .eith) T.M_Either_shown GN_Either_shown (hr.mono (by omega)) T.B_Either_shown .nil pass0) (pe_alt (pe_meth0 (pv 1) (show Cls d.K d.cTry from T.t_Parts.cl .tryy) T.M_Try_shown GN_Try_shown (hr.mono (by omega)) T.B_Try_shown .nil pass0) (pe_alt (pe_meth0 (pv 1) (show Cls d.K d.cThrow from T.t_Parts.cl .throw) T.M_Throw_shown G_Throw_shown (hr.mono (by omega)) T.B_Throw_shown .nil pass0) (pe_meth0 (pv 1) (show Cls d.K d.cWait from T.t_Parts.cl .wait) T.M_Wait_shown G_Wait_shown (hr.mono (by omega)) T.B_Wait_shown .nil pass0))))))))))))))
    case g1 =>
      refine FnOk.mono (j := n + 1 + 1) ?_ (by omega)
      refine T.F_bracketed.ok sc_bracketed (fun vs H Q E h => by first | (exact lift_len (fun ds W Q h => by first | (obtain ⟨rfl, _⟩ := h; rfl) | (obtain ⟨_, rfl, _⟩ := h; rfl) | (obtain ⟨_, _, rfl, _⟩ := h; rfl) | (obtain ⟨_, _, _, rfl, _⟩ := h; rfl) | (obtain ⟨_, _, _, _, rfl, _⟩ := h; rfl) | (obtain ⟨_, _, _, _, _, rfl, _⟩ := h; rfl) | (obtain ⟨_, _, _, _, _, _, rfl, _⟩ := h; rfl) | (obtain ⟨_, _, _, _, _, _, _, rfl, _⟩ := h; rfl) | (obtain ⟨_, _, _, _, _, _, _, _, rfl, _⟩ := h; rfl) | (obtain ⟨_, _, _, _, _, _, _, _, _, rfl, _⟩ := h; rfl) | (obtain ⟨_, _, _, _, _, _, _, _, _, _, rfl, _⟩ := h; rfl) | (obtain ⟨_, _, _, _, _, _, _, _, _, _, _, rfl, _⟩ := h; rfl) | (obtain ⟨_, _, _, _, _, _, _, _, _, _, _, _, rfl, _⟩ := h; rfl) | (obtain ⟨_, _, _, _, _, _, _, _, _, _, _, _, _, rfl, _⟩ := h; rfl) | (obtain ⟨_, _, _, _, _, _, _, _, _, _, _, _, _, _, rfl, _⟩ := h; rfl) | (obtain ⟨_, _, _, _, _, _, _, _, _, _, _, _, _, _, _, rfl, _⟩ := h; rfl)) h) | (obtain ⟨rfl, _⟩ := h; rfl) | (obtain ⟨_, rfl, _⟩ := h; rfl) | (obtain ⟨_, _, rfl, _⟩ := h; rfl) | (obtain ⟨_, _, _, rfl, _⟩ := h; rfl) | (obtain ⟨_, _, _, _, rfl, _⟩ := h; rfl) | (obtain ⟨_, _, _, _, _, rfl, _⟩ := h; rfl) | (obtain ⟨_, _, _, _, _, _, rfl, _⟩ := h; rfl) | (obtain ⟨_, _, _, _, _, _, _, rfl, _⟩ := h; rfl) | (obtain ⟨_, _, _, _, _, _, _, _, rfl, _⟩ := h; rfl) | (obtain ⟨_, _, _, _, _, _, _, _, _, rfl, _⟩ := h; rfl) | (obtain ⟨_, _, _, _, _, _, _, _, _, _, rfl, _⟩ := h; rfl) | (obtain ⟨_, _, _, _, _, _, _, _, _, _, _, rfl, _⟩ := h; rfl) | (obtain ⟨_, _, _, _, _, _, _, _, _, _, _, _, rfl, _⟩ := h; rfl) | (obtain ⟨_, _, _, _, _, _, _, _, _, _, _, _, _, rfl, _⟩ := h; rfl) | (obtain ⟨_, _, _, _, _, _, _, _, _, _, _, _, _, _, rfl, _⟩ := h; rfl) | (obtain ⟨_, _, _, _, _, _, _, _, _, _, _, _, _, _, _, rfl, _⟩ := h; rfl)) (fun cdv A outer s H vs Q E hr h => ⟨t_bracketed n d, ?_, pure_bracketed  h⟩)
      exact (pss_cons (ps_set (i := 1) sc_bracketed.nd rfl (Or.inl rfl) (pe_lst (pa_cons pe_str pa_nil)))
        (pss_cons (ps_if (pt_cmpR o_gt (pe_callB call_len_seq (by rfl) T.b_len (by decide +kernel) (pa_cons (pv 0) pa_nil)) pe_int (nomark _)) (pss_one (ps_expr (pe_bm PySem.F.plainAttrs_list PySem.F.slot_list_append PySem.F.type_list_append mt_append (pv 1) (pa_cons (pe_call GN_list_shown (hr.mono (by omega)) rfl T.m_list_shown T.F_list_shown.kp T.B_list_shown .nil pass0 (pa_cons (pv 0) pa_nil)) pa_nil)))) pss_nil)
        (pss_one (ps_ret (pe_join pe_str (pe_op op_catQ (pv 1) (pe_lst (pa_cons pe_str pa_nil))))))))
    case g2 =>
      refine FnOk.mono (j := n + 1 + 1) ?_ (by omega)
      refine T.F_If_shown.ok sc_If_shown (fun vs H Q E h => by first | (exact lift_len (fun ds W Q h => by first | (obtain ⟨rfl, _⟩ := h; rfl) | (obtain ⟨_, rfl, _⟩ := h; rfl) | (obtain ⟨_, _, rfl, _⟩ := h; rfl) | (obtain ⟨_, _, _, rfl, _⟩ := h; rfl) | (obtain ⟨_, _, _, _, rfl, _⟩ := h; rfl) | (obtain ⟨_, _, _, _, _, rfl, _⟩ := h; rfl) | (obtain ⟨_, _, _, _, _, _, rfl, _⟩ := h; rfl) | (obtain ⟨_, _, _, _, _, _, _, rfl, _⟩ := h; rfl) | (obtain ⟨_, _, _, _, _, _, _, _, rfl, _⟩ := h; rfl) | (obtain ⟨_, _, _, _, _, _, _, _, _, rfl, _⟩ := h; rfl) | (obtain ⟨_, _, _, _, _, _, _, _, _, _, rfl, _⟩ := h; rfl) | (obtain ⟨_, _, _, _, _, _, _, _, _, _, _, rfl, _⟩ := h; rfl) | (obtain ⟨_, _, _, _, _, _, _, _, _, _, _, _, rfl, _⟩ := h; rfl) | (obtain ⟨_, _, _, _, _, _, _, _, _, _, _, _, _, rfl, _⟩ := h; rfl) | (obtain ⟨_, _, _, _, _, _, _, _, _, _, _, _, _, _, rfl, _⟩ := h; rfl) | (obtain ⟨_, _, _, _, _, _, _, _, _, _, _, _, _, _, _, rfl, _⟩ := h; rfl)) h) | (obtain ⟨rfl, _⟩ := h; rfl) | (obtain ⟨_, rfl, _⟩ := h; rfl) | (obtain ⟨_, _, rfl, _⟩ := h; rfl) | (obtain ⟨_, _, _, rfl, _⟩ := h; rfl) | (obtain ⟨_, _, _, _, rfl, _⟩ := h; rfl) | (obtain ⟨_, _, _, _, _, rfl, _⟩ := h; rfl) | (obtain ⟨_, _, _, _, _, _, rfl, _⟩ := h; rfl) | (obtain ⟨_, _, _, _, _, _, _, rfl, _⟩ := h; rfl) | (obtain ⟨_, _, _, _, _, _, _, _, rfl, _⟩ := h; rfl) | (obtain ⟨_, _, _, _, _, _, _, _, _, rfl, _⟩ := h; rfl) | (obtain ⟨_, _, _, _, _, _, _, _, _, _, rfl, _⟩ := h; rfl) | (obtain ⟨_, _, _, _, _, _, _, _, _, _, _, rfl, _⟩ := h; rfl) | (obtain ⟨_, _, _, _, _, _, _, _, _, _, _, _, rfl, _⟩ := h; rfl) | (obtain ⟨_, _, _, _, _, _, _, _, _, _, _, _, _, rfl, _⟩ := h; rfl) | (obtain ⟨_, _, _, _, _, _, _, _, _, _, _, _, _, _, rfl, _⟩ := h; rfl) | (obtain ⟨_, _, _, _, _, _, _, _, _, _, _, _, _, _, _, rfl, _⟩ := h; rfl)) (fun cdv A outer s H vs Q E hr h => ⟨t_If_shown n d, ?_, pure_If_shown T.t_Parts h⟩)
      exact (pss_one (ps_ret (pe_join pe_str (pe_lst (pa_cons pe_str (pa_cons (pe_fld (pv 0) rfl) (pa_cons (pe_call GN_bracketed (hr.mono (by omega)) rfl T.m_bracketed T.F_bracketed.kp T.B_bracketed .nil pass0 (pa_cons (pe_fld (pv 0) rfl) pa_nil)) (pa_cons pe_str (pa_cons (pe_call GN_bracketed (hr.mono (by omega)) rfl T.m_bracketed T.F_bracketed.kp T.B_bracketed .nil pass0 (pa_cons (pe_fld (pv 0) rfl) pa_nil)) pa_nil)))))))))
    case g3 =>
      refine FnOk.mono (j := n + 1 + 1) ?_ (by omega)
      refine T.F_Either_shown.ok sc_Either_shown (fun vs H Q E h => by first | (exact lift_len (fun ds W Q h => by first | (obtain ⟨rfl, _⟩ := h; rfl) | (obtain ⟨_, rfl, _⟩ := h; rfl) | (obtain ⟨_, _, rfl, _⟩ := h; rfl) | (obtain ⟨_, _, _, rfl, _⟩ := h; rfl) | (obtain ⟨_, _, _, _, rfl, _⟩ := h; rfl) | (obtain ⟨_, _, _, _, _, rfl, _⟩ := h; rfl) | (obtain ⟨_, _, _, _, _, _, rfl, _⟩ := h; rfl) | (obtain ⟨_, _, _, _, _, _, _, rfl, _⟩ := h; rfl) | (obtain ⟨_, _, _, _, _, _, _, _, rfl, _⟩ := h; rfl) | (obtain ⟨_, _, _, _, _, _, _, _, _, rfl, _⟩ := h; rfl) | (obtain ⟨_, _, _, _, _, _, _, _, _, _, rfl, _⟩ := h; rfl) | (obtain ⟨_, _, _, _, _, _, _, _, _, _, _, rfl, _⟩ := h; rfl) | (obtain ⟨_, _, _, _, _, _, _, _, _, _, _, _, rfl, _⟩ := h; rfl) | (obtain ⟨_, _, _, _, _, _, _, _, _, _, _, _, _, rfl, _⟩ := h; rfl) | (obtain ⟨_, _, _, _, _, _, _, _, _, _, _, _, _, _, rfl, _⟩ := h; rfl) | (obtain ⟨_, _, _, _, _, _, _, _, _, _, _, _, _, _, _, rfl, _⟩ := h; rfl)) h) | (obtain ⟨rfl, _⟩ := h; rfl) | (obtain ⟨_, rfl, _⟩ := h; rfl) | (obtain ⟨_, _, rfl, _⟩ := h; rfl) | (obtain ⟨_, _, _, rfl, _⟩ := h; rfl) | (obtain ⟨_, _, _, _, rfl, _⟩ := h; rfl) | (obtain ⟨_, _, _, _, _, rfl, _⟩ := h; rfl) | (obtain ⟨_, _, _, _, _, _, rfl, _⟩ := h; rfl) | (obtain ⟨_, _, _, _, _, _, _, rfl, _⟩ := h; rfl) | (obtain ⟨_, _, _, _, _, _, _, _, rfl, _⟩ := h; rfl) | (obtain ⟨_, _, _, _, _, _, _, _, _, rfl, _⟩ := h; rfl) | (obtain ⟨_, _, _, _, _, _, _, _, _, _, rfl, _⟩ := h; rfl) | (obtain ⟨_, _, _, _, _, _, _, _, _, _, _, rfl, _⟩ := h; rfl) | (obtain ⟨_, _, _, _, _, _, _, _, _, _, _, _, rfl, _⟩ := h; rfl) | (obtain ⟨_, _, _, _, _, _, _, _, _, _, _, _, _, rfl, _⟩ := h; rfl) | (obtain ⟨_, _, _, _, _, _, _, _, _, _, _, _, _, _, rfl, _⟩ := h; rfl) | (obtain ⟨_, _, _, _, _, _, _, _, _, _, _, _, _, _, _, rfl, _⟩ := h; rfl)) (fun cdv A outer s H vs Q E hr h => ⟨t_Either_shown n d, ?_, pure_Either_shown T.t_Parts h⟩)
      exact (pss_one (ps_ret (pe_join pe_str (pe_lst (pa_cons pe_str (pa_cons (pe_call GN_bracketed (hr.mono (by omega)) rfl T.m_bracketed T.F_bracketed.kp T.B_bracketed .nil pass0 (pa_cons (pe_fld (pv 0) rfl) pa_nil)) (pa_cons pe_str (pa_cons (pe_call GN_bracketed (hr.mono (by omega)) rfl T.m_bracketed T.F_bracketed.kp T.B_bracketed .nil pass0 (pa_cons (pe_fld (pv 0) rfl) pa_nil)) pa_nil))))))))
    case g4 =>
      refine FnOk.mono (j := n + 1 + 1) ?_ (by omega)
      refine T.F_Try_shown.ok sc_Try_shown (fun vs H Q E h => by first | (exact lift_len (fun ds W Q h => by first | (obtain ⟨rfl, _⟩ := h; rfl) | (obtain ⟨_, rfl, _⟩ := h; rfl) | (obtain ⟨_, _, rfl, _⟩ := h; rfl) | (obtain ⟨_, _, _, rfl, _⟩ := h; rfl) | (obtain ⟨_, _, _, _, rfl, _⟩ := h; rfl) | (obtain ⟨_, _, _, _, _, rfl, _⟩ := h; rfl) | (obtain ⟨_, _, _, _, _, _, rfl, _⟩ := h; rfl) | (obtain ⟨_, _, _, _, _, _, _, rfl, _⟩ := h; rfl) | (obtain ⟨_, _, _, _, _, _, _, _, rfl, _⟩ := h; rfl) | (obtain ⟨_, _, _, _, _, _, _, _, _, rfl, _⟩ := h; rfl) | (obtain ⟨_, _, _, _, _, _, _, _, _, _, rfl, _⟩ := h; rfl) | (obtain ⟨_, _, _, _, _, _, _, _, _, _, _, rfl, _⟩ := h; rfl) | (obtain ⟨_, _, _, _, _, _, _, _, _, _, _, _, rfl, _⟩ := h; rfl) | (obtain ⟨_, _, _, _, _, _, _, _, _, _, _, _, _, rfl, _⟩ := h; rfl) | (obtain ⟨_, _, _, _, _, _, _, _, _, _, _, _, _, _, rfl, _⟩ := h; rfl) | (obtain ⟨_, _, _, _, _, _, _, _, _, _, _, _, _, _, _, rfl, _⟩ := h; rfl)) h) | (obtain ⟨rfl, _⟩ := h; rfl) | (obtain ⟨_, rfl, _⟩ := h; rfl) | (obtain ⟨_, _, rfl, _⟩ := h; rfl) | (obtain ⟨_, _, _, rfl, _⟩ := h; rfl) | (obtain ⟨_, _, _, _, rfl, _⟩ := h; rfl) | (obtain ⟨_, _, _, _, _, rfl, _⟩ := h; rfl) | (obtain ⟨_, _, _, _, _, _, rfl, _⟩ := h; rfl) | (obtain ⟨_, _, _, _, _, _, _, rfl, _⟩ := h; rfl) | (obtain ⟨_, _, _, _, _, _, _, _, rfl, _⟩ := h; rfl) | (obtain ⟨_, _, _, _, _, _, _, _, _, rfl, _⟩ := h; rfl) | (obtain ⟨_, _, _, _, _, _, _, _, _, _, rfl, _⟩ := h; rfl) | (obtain ⟨_, _, _, _, _, _, _, _, _, _, _, rfl, _⟩ := h; rfl) | (obtain ⟨_, _, _, _, _, _, _, _, _, _, _, _, rfl, _⟩ := h; rfl) | (obtain ⟨_, _, _, _, _, _, _, _, _, _, _, _, _, rfl, _⟩ := h; rfl) | (obtain ⟨_, _, _, _, _, _, _, _, _, _, _, _, _, _, rfl, _⟩ := h; rfl) | (obtain ⟨_, _, _, _, _, _, _, _, _, _, _, _, _, _, _, rfl, _⟩ := h; rfl)) (fun cdv A outer s H vs Q E hr h => ⟨t_Try_shown n d, ?_, pure_Try_shown T.t_Parts h⟩)
      exact (pss_cons (ps_set (i := 1) sc_Try_shown.nd rfl (Or.inl rfl) (pe_lst (pa_cons pe_str (pa_cons (pe_call GN_bracketed (hr.mono (by omega)) rfl T.m_bracketed T.F_bracketed.kp T.B_bracketed .nil pass0 (pa_cons (pe_fld (pv 0) rfl) pa_nil)) (pa_cons pe_str (pa_cons (pe_fld (pv 0) rfl) (pa_cons (pe_fld (pv 0) rfl) pa_nil)))))))
        (pss_one (ps_ret (pe_join pe_str (pe_op op_catQ (pv 1) (pe_lst (pa_cons (pe_call GN_bracketed (hr.mono (by omega)) rfl T.m_bracketed T.F_bracketed.kp T.B_bracketed .nil pass0 (pa_cons (pe_fld (pv 0) rfl) pa_nil)) pa_nil)))))))
theorem ok_list_shown (T : Txt d mg z) : FnOk P w d.K mg base CX0 (61) z.f_list_shown z.d_list_shown ["parts"] (sp_list_shown d) := (okG_list_shown T 60).1
theorem ok_bracketed (T : Txt d mg z) : FnOk P w d.K mg base CX0 (61) z.f_bracketed z.d_bracketed ["parts"] (sp_bracketed d) := (okG_list_shown T 60).2.1
theorem ok_If_shown (T : Txt d mg z) : FnOk P w d.K mg base CX0 (61) z.f_If_shown z.d_If_shown ["self"] (sp_If_shown d) := (okG_list_shown T 60).2.2.1
theorem ok_Either_shown (T : Txt d mg z) : FnOk P w d.K mg base CX0 (61) z.f_Either_shown z.d_Either_shown ["self"] (sp_Either_shown d) := (okG_list_shown T 60).2.2.2.1
theorem ok_Try_shown (T : Txt d mg z) : FnOk P w d.K mg base CX0 (61) z.f_Try_shown z.d_Try_shown ["self"] (sp_Try_shown d) := (okG_list_shown T 60).2.2.2.2
theorem ok_Part_shown (T : Txt d mg z) : FnOk P w d.K mg base CX0 1 z.f_Part_shown z.d_Part_shown ["self"] (sp_Part_shown d) := by
  refine T.F_Part_shown.ok sc_Part_shown (fun vs H Q E h => by first | (exact lift_len (fun ds W Q h => by first | (obtain ⟨rfl, _⟩ := h; rfl) | (obtain ⟨_, rfl, _⟩ := h; rfl) | (obtain ⟨_, _, rfl, _⟩ := h; rfl) | (obtain ⟨_, _, _, rfl, _⟩ := h; rfl) | (obtain ⟨_, _, _, _, rfl, _⟩ := h; rfl) | (obtain ⟨_, _, _, _, _, rfl, _⟩ := h; rfl) | (obtain ⟨_, _, _, _, _, _, rfl, _⟩ := h; rfl) | (obtain ⟨_, _, _, _, _, _, _, rfl, _⟩ := h; rfl) | (obtain ⟨_, _, _, _, _, _, _, _, rfl, _⟩ := h; rfl) | (obtain ⟨_, _, _, _, _, _, _, _, _, rfl, _⟩ := h; rfl) | (obtain ⟨_, _, _, _, _, _, _, _, _, _, rfl, _⟩ := h; rfl) | (obtain ⟨_, _, _, _, _, _, _, _, _, _, _, rfl, _⟩ := h; rfl) | (obtain ⟨_, _, _, _, _, _, _, _, _, _, _, _, rfl, _⟩ := h; rfl) | (obtain ⟨_, _, _, _, _, _, _, _, _, _, _, _, _, rfl, _⟩ := h; rfl) | (obtain ⟨_, _, _, _, _, _, _, _, _, _, _, _, _, _, rfl, _⟩ := h; rfl) | (obtain ⟨_, _, _, _, _, _, _, _, _, _, _, _, _, _, _, rfl, _⟩ := h; rfl)) h) | (obtain ⟨rfl, _⟩ := h; rfl) | (obtain ⟨_, rfl, _⟩ := h; rfl) | (obtain ⟨_, _, rfl, _⟩ := h; rfl) | (obtain ⟨_, _, _, rfl, _⟩ := h; rfl) | (obtain ⟨_, _, _, _, rfl, _⟩ := h; rfl) | (obtain ⟨_, _, _, _, _, rfl, _⟩ := h; rfl) | (obtain ⟨_, _, _, _, _, _, rfl, _⟩ := h; rfl) | (obtain ⟨_, _, _, _, _, _, _, rfl, _⟩ := h; rfl) | (obtain ⟨_, _, _, _, _, _, _, _, rfl, _⟩ := h; rfl) | (obtain ⟨_, _, _, _, _, _, _, _, _, rfl, _⟩ := h; rfl) | (obtain ⟨_, _, _, _, _, _, _, _, _, _, rfl, _⟩ := h; rfl) | (obtain ⟨_, _, _, _, _, _, _, _, _, _, _, rfl, _⟩ := h; rfl) | (obtain ⟨_, _, _, _, _, _, _, _, _, _, _, _, rfl, _⟩ := h; rfl) | (obtain ⟨_, _, _, _, _, _, _, _, _, _, _, _, _, rfl, _⟩ := h; rfl) | (obtain ⟨_, _, _, _, _, _, _, _, _, _, _, _, _, _, rfl, _⟩ := h; rfl) | (obtain ⟨_, _, _, _, _, _, _, _, _, _, _, _, _, _, _, rfl, _⟩ := h; rfl)) (fun cdv A outer s H vs Q E hr h => ⟨t_Part_shown d, ?_, pure_Part_shown  h⟩)
  exact (pss_one (ps_ret pe_str))
theorem ok_Part_long (T : Txt d mg z) : FnOk P w d.K mg base CX0 1 z.f_Part_long z.d_Part_long ["self"] (sp_Part_long d) := by
  refine T.F_Part_long.ok sc_Part_long (fun vs H Q E h => by first | (exact lift_len (fun ds W Q h => by first | (obtain ⟨rfl, _⟩ := h; rfl) | (obtain ⟨_, rfl, _⟩ := h; rfl) | (obtain ⟨_, _, rfl, _⟩ := h; rfl) | (obtain ⟨_, _, _, rfl, _⟩ := h; rfl) | (obtain ⟨_, _, _, _, rfl, _⟩ := h; rfl) | (obtain ⟨_, _, _, _, _, rfl, _⟩ := h; rfl) | (obtain ⟨_, _, _, _, _, _, rfl, _⟩ := h; rfl) | (obtain ⟨_, _, _, _, _, _, _, rfl, _⟩ := h; rfl) | (obtain ⟨_, _, _, _, _, _, _, _, rfl, _⟩ := h; rfl) | (obtain ⟨_, _, _, _, _, _, _, _, _, rfl, _⟩ := h; rfl) | (obtain ⟨_, _, _, _, _, _, _, _, _, _, rfl, _⟩ := h; rfl) | (obtain ⟨_, _, _, _, _, _, _, _, _, _, _, rfl, _⟩ := h; rfl) | (obtain ⟨_, _, _, _, _, _, _, _, _, _, _, _, rfl, _⟩ := h; rfl) | (obtain ⟨_, _, _, _, _, _, _, _, _, _, _, _, _, rfl, _⟩ := h; rfl) | (obtain ⟨_, _, _, _, _, _, _, _, _, _, _, _, _, _, rfl, _⟩ := h; rfl) | (obtain ⟨_, _, _, _, _, _, _, _, _, _, _, _, _, _, _, rfl, _⟩ := h; rfl)) h) | (obtain ⟨rfl, _⟩ := h; rfl) | (obtain ⟨_, rfl, _⟩ := h; rfl) | (obtain ⟨_, _, rfl, _⟩ := h; rfl) | (obtain ⟨_, _, _, rfl, _⟩ := h; rfl) | (obtain ⟨_, _, _, _, rfl, _⟩ := h; rfl) | (obtain ⟨_, _, _, _, _, rfl, _⟩ := h; rfl) | (obtain ⟨_, _, _, _, _, _, rfl, _⟩ := h; rfl) | (obtain ⟨_, _, _, _, _, _, _, rfl, _⟩ := h; rfl) | (obtain ⟨_, _, _, _, _, _, _, _, rfl, _⟩ := h; rfl) | (obtain ⟨_, _, _, _, _, _, _, _, _, rfl, _⟩ := h; rfl) | (obtain ⟨_, _, _, _, _, _, _, _, _, _, rfl, _⟩ := h; rfl) | (obtain ⟨_, _, _, _, _, _, _, _, _, _, _, rfl, _⟩ := h; rfl) | (obtain ⟨_, _, _, _, _, _, _, _, _, _, _, _, rfl, _⟩ := h; rfl) | (obtain ⟨_, _, _, _, _, _, _, _, _, _, _, _, _, rfl, _⟩ := h; rfl) | (obtain ⟨_, _, _, _, _, _, _, _, _, _, _, _, _, _, rfl, _⟩ := h; rfl) | (obtain ⟨_, _, _, _, _, _, _, _, _, _, _, _, _, _, _, rfl, _⟩ := h; rfl)) (fun cdv A outer s H vs Q E hr h => ⟨t_Part_long d, ?_, pure_Part_long  h⟩)
  exact (pss_one (ps_ret pe_int))
theorem ok_z_whole (T : Txt d mg z) : FnOk P w d.K mg base CX0 1 z.f_z_whole z.d_z_whole ["_law_found"] (sp_z_whole d) := by
  refine T.F_z_whole.ok sc_z_whole (fun vs H Q E h => by first | (exact lift_len (fun ds W Q h => by first | (obtain ⟨rfl, _⟩ := h; rfl) | (obtain ⟨_, rfl, _⟩ := h; rfl) | (obtain ⟨_, _, rfl, _⟩ := h; rfl) | (obtain ⟨_, _, _, rfl, _⟩ := h; rfl) | (obtain ⟨_, _, _, _, rfl, _⟩ := h; rfl) | (obtain ⟨_, _, _, _, _, rfl, _⟩ := h; rfl) | (obtain ⟨_, _, _, _, _, _, rfl, _⟩ := h; rfl) | (obtain ⟨_, _, _, _, _, _, _, rfl, _⟩ := h; rfl) | (obtain ⟨_, _, _, _, _, _, _, _, rfl, _⟩ := h; rfl) | (obtain ⟨_, _, _, _, _, _, _, _, _, rfl, _⟩ := h; rfl) | (obtain ⟨_, _, _, _, _, _, _, _, _, _, rfl, _⟩ := h; rfl) | (obtain ⟨_, _, _, _, _, _, _, _, _, _, _, rfl, _⟩ := h; rfl) | (obtain ⟨_, _, _, _, _, _, _, _, _, _, _, _, rfl, _⟩ := h; rfl) | (obtain ⟨_, _, _, _, _, _, _, _, _, _, _, _, _, rfl, _⟩ := h; rfl) | (obtain ⟨_, _, _, _, _, _, _, _, _, _, _, _, _, _, rfl, _⟩ := h; rfl) | (obtain ⟨_, _, _, _, _, _, _, _, _, _, _, _, _, _, _, rfl, _⟩ := h; rfl)) h) | (obtain ⟨rfl, _⟩ := h; rfl) | (obtain ⟨_, rfl, _⟩ := h; rfl) | (obtain ⟨_, _, rfl, _⟩ := h; rfl) | (obtain ⟨_, _, _, rfl, _⟩ := h; rfl) | (obtain ⟨_, _, _, _, rfl, _⟩ := h; rfl) | (obtain ⟨_, _, _, _, _, rfl, _⟩ := h; rfl) | (obtain ⟨_, _, _, _, _, _, rfl, _⟩ := h; rfl) | (obtain ⟨_, _, _, _, _, _, _, rfl, _⟩ := h; rfl) | (obtain ⟨_, _, _, _, _, _, _, _, rfl, _⟩ := h; rfl) | (obtain ⟨_, _, _, _, _, _, _, _, _, rfl, _⟩ := h; rfl) | (obtain ⟨_, _, _, _, _, _, _, _, _, _, rfl, _⟩ := h; rfl) | (obtain ⟨_, _, _, _, _, _, _, _, _, _, _, rfl, _⟩ := h; rfl) | (obtain ⟨_, _, _, _, _, _, _, _, _, _, _, _, rfl, _⟩ := h; rfl) | (obtain ⟨_, _, _, _, _, _, _, _, _, _, _, _, _, rfl, _⟩ := h; rfl) | (obtain ⟨_, _, _, _, _, _, _, _, _, _, _, _, _, _, rfl, _⟩ := h; rfl) | (obtain ⟨_, _, _, _, _, _, _, _, _, _, _, _, _, _, _, rfl, _⟩ := h; rfl)) (fun cdv A outer s H vs Q E hr h => ⟨t_z_whole d, ?_, pure_z_whole  h⟩)
  exact (pss_one (ps_ret (pe_and (pe_callB call_isi (by rfl) T.b_isinstance (by decide +kernel) (pa_cons (pv 0) (pa_cons (pe_bltn (v := .ty "int") (by rfl) T.b_int (by decide +kernel) rfl) pa_nil))) (pe_one (pe_not (pe_callB call_isi (by rfl) T.b_isinstance (by decide +kernel) (pa_cons (pv 0) (pa_cons (pe_bltn (v := .ty "bool") (by rfl) T.b_bool (by decide +kernel) rfl) pa_nil))))))))
theorem ok_z_name (T : Txt d mg z) : FnOk P w d.K mg base CX0 1 z.f_z_name z.d_z_name ["_law_cell"] (sp_z_name d) := by
  refine T.F_z_name.ok sc_z_name (fun vs H Q E h => by first | (exact lift_len (fun ds W Q h => by first | (obtain ⟨rfl, _⟩ := h; rfl) | (obtain ⟨_, rfl, _⟩ := h; rfl) | (obtain ⟨_, _, rfl, _⟩ := h; rfl) | (obtain ⟨_, _, _, rfl, _⟩ := h; rfl) | (obtain ⟨_, _, _, _, rfl, _⟩ := h; rfl) | (obtain ⟨_, _, _, _, _, rfl, _⟩ := h; rfl) | (obtain ⟨_, _, _, _, _, _, rfl, _⟩ := h; rfl) | (obtain ⟨_, _, _, _, _, _, _, rfl, _⟩ := h; rfl) | (obtain ⟨_, _, _, _, _, _, _, _, rfl, _⟩ := h; rfl) | (obtain ⟨_, _, _, _, _, _, _, _, _, rfl, _⟩ := h; rfl) | (obtain ⟨_, _, _, _, _, _, _, _, _, _, rfl, _⟩ := h; rfl) | (obtain ⟨_, _, _, _, _, _, _, _, _, _, _, rfl, _⟩ := h; rfl) | (obtain ⟨_, _, _, _, _, _, _, _, _, _, _, _, rfl, _⟩ := h; rfl) | (obtain ⟨_, _, _, _, _, _, _, _, _, _, _, _, _, rfl, _⟩ := h; rfl) | (obtain ⟨_, _, _, _, _, _, _, _, _, _, _, _, _, _, rfl, _⟩ := h; rfl) | (obtain ⟨_, _, _, _, _, _, _, _, _, _, _, _, _, _, _, rfl, _⟩ := h; rfl)) h) | (obtain ⟨rfl, _⟩ := h; rfl) | (obtain ⟨_, rfl, _⟩ := h; rfl) | (obtain ⟨_, _, rfl, _⟩ := h; rfl) | (obtain ⟨_, _, _, rfl, _⟩ := h; rfl) | (obtain ⟨_, _, _, _, rfl, _⟩ := h; rfl) | (obtain ⟨_, _, _, _, _, rfl, _⟩ := h; rfl) | (obtain ⟨_, _, _, _, _, _, rfl, _⟩ := h; rfl) | (obtain ⟨_, _, _, _, _, _, _, rfl, _⟩ := h; rfl) | (obtain ⟨_, _, _, _, _, _, _, _, rfl, _⟩ := h; rfl) | (obtain ⟨_, _, _, _, _, _, _, _, _, rfl, _⟩ := h; rfl) | (obtain ⟨_, _, _, _, _, _, _, _, _, _, rfl, _⟩ := h; rfl) | (obtain ⟨_, _, _, _, _, _, _, _, _, _, _, rfl, _⟩ := h; rfl) | (obtain ⟨_, _, _, _, _, _, _, _, _, _, _, _, rfl, _⟩ := h; rfl) | (obtain ⟨_, _, _, _, _, _, _, _, _, _, _, _, _, rfl, _⟩ := h; rfl) | (obtain ⟨_, _, _, _, _, _, _, _, _, _, _, _, _, _, rfl, _⟩ := h; rfl) | (obtain ⟨_, _, _, _, _, _, _, _, _, _, _, _, _, _, _, rfl, _⟩ := h; rfl)) (fun cdv A outer s H vs Q E hr h => ⟨t_z_name d, ?_, pure_z_name  h⟩)
  exact (pss_cons (ps_if (pt_cmpR op_eq (pe_op op_mod (pv 0) pe_int) pe_int (nomark _)) (pss_one (ps_ret (pe_ix ix_list (pe_lst (pa_cons pe_str (pa_cons pe_str (pa_cons pe_str (pa_cons pe_str (pa_cons pe_str (pa_cons pe_str (pa_cons pe_str (pa_cons pe_str pa_nil))))))))) (pe_op op_mod (pe_op op_fdiv (pv 0) pe_int) pe_int) (fun _ _ => rfl)))) pss_nil)
      (pss_cons (ps_set (i := 1) sc_z_name.nd rfl (Or.inl rfl) pe_str)
      (pss_cons (ps_set (i := 2) sc_z_name.nd rfl (Or.inl rfl) (pe_op op_add pe_int (pe_op op_mod (pe_op op_fdiv (pv 0) pe_int) pe_int)))
      (pss_cons (ps_set (i := 3) sc_z_name.nd rfl (Or.inl rfl) (pe_op op_mod (pe_op op_fdiv (pv 0) pe_int) (pv 2)))
      (pss_cons (ps_set (i := 4) sc_z_name.nd rfl (Or.inl rfl) pe_str)
      (pss_cons (ps_for PassesOwn.never rfl (pi_range1 rfl T.b_range (pa_cons (pv 2) pa_nil)) (pg_name (i := 5) sc_z_name.nd rfl (Or.inl rfl)) (pss_cons (ps_set (i := 6) sc_z_name.nd rfl (Or.inl rfl) (pe_op op_add (pe_op op_fdiv (pv 0) pe_int) (pe_op op_mul (pv 5) (pv 5))))
      (pss_cons (ps_if (pt_cmpR op_eq (pv 5) (pv 3) (nomark _)) (pss_one (ps_set (i := 6) sc_z_name.nd rfl (Or.inl rfl) (pe_op op_add (pv 6) (pe_op op_fdiv (pv 0) pe_int)))) pss_nil)
      (pss_one (ps_set (i := 4) sc_z_name.nd rfl (Or.inl rfl) (pe_op op_add_str (pv 4) (pe_ix ix_str (pv 1) (pe_op op_mod (pv 6) pe_int) (fun _ _ => rfl))))))))
      (pss_one (ps_ret (pv 4)))))))))
theorem ok_z_slot (T : Txt d mg z) : FnOk P w d.K mg base CX0 1 z.f_z_slot z.d_z_slot ["_law_number_here"] (sp_z_slot d) := by
  refine T.F_z_slot.ok sc_z_slot (fun vs H Q E h => by first | (exact lift_len (fun ds W Q h => by first | (obtain ⟨rfl, _⟩ := h; rfl) | (obtain ⟨_, rfl, _⟩ := h; rfl) | (obtain ⟨_, _, rfl, _⟩ := h; rfl) | (obtain ⟨_, _, _, rfl, _⟩ := h; rfl) | (obtain ⟨_, _, _, _, rfl, _⟩ := h; rfl) | (obtain ⟨_, _, _, _, _, rfl, _⟩ := h; rfl) | (obtain ⟨_, _, _, _, _, _, rfl, _⟩ := h; rfl) | (obtain ⟨_, _, _, _, _, _, _, rfl, _⟩ := h; rfl) | (obtain ⟨_, _, _, _, _, _, _, _, rfl, _⟩ := h; rfl) | (obtain ⟨_, _, _, _, _, _, _, _, _, rfl, _⟩ := h; rfl) | (obtain ⟨_, _, _, _, _, _, _, _, _, _, rfl, _⟩ := h; rfl) | (obtain ⟨_, _, _, _, _, _, _, _, _, _, _, rfl, _⟩ := h; rfl) | (obtain ⟨_, _, _, _, _, _, _, _, _, _, _, _, rfl, _⟩ := h; rfl) | (obtain ⟨_, _, _, _, _, _, _, _, _, _, _, _, _, rfl, _⟩ := h; rfl) | (obtain ⟨_, _, _, _, _, _, _, _, _, _, _, _, _, _, rfl, _⟩ := h; rfl) | (obtain ⟨_, _, _, _, _, _, _, _, _, _, _, _, _, _, _, rfl, _⟩ := h; rfl)) h) | (obtain ⟨rfl, _⟩ := h; rfl) | (obtain ⟨_, rfl, _⟩ := h; rfl) | (obtain ⟨_, _, rfl, _⟩ := h; rfl) | (obtain ⟨_, _, _, rfl, _⟩ := h; rfl) | (obtain ⟨_, _, _, _, rfl, _⟩ := h; rfl) | (obtain ⟨_, _, _, _, _, rfl, _⟩ := h; rfl) | (obtain ⟨_, _, _, _, _, _, rfl, _⟩ := h; rfl) | (obtain ⟨_, _, _, _, _, _, _, rfl, _⟩ := h; rfl) | (obtain ⟨_, _, _, _, _, _, _, _, rfl, _⟩ := h; rfl) | (obtain ⟨_, _, _, _, _, _, _, _, _, rfl, _⟩ := h; rfl) | (obtain ⟨_, _, _, _, _, _, _, _, _, _, rfl, _⟩ := h; rfl) | (obtain ⟨_, _, _, _, _, _, _, _, _, _, _, rfl, _⟩ := h; rfl) | (obtain ⟨_, _, _, _, _, _, _, _, _, _, _, _, rfl, _⟩ := h; rfl) | (obtain ⟨_, _, _, _, _, _, _, _, _, _, _, _, _, rfl, _⟩ := h; rfl) | (obtain ⟨_, _, _, _, _, _, _, _, _, _, _, _, _, _, rfl, _⟩ := h; rfl) | (obtain ⟨_, _, _, _, _, _, _, _, _, _, _, _, _, _, _, rfl, _⟩ := h; rfl)) (fun cdv A outer s H vs Q E hr h => ⟨t_z_slot d, ?_, pure_z_slot  h⟩)
  exact (pss_one (ps_ret (pe_ix ix_str pe_str (pe_op op_mod (pv 0) pe_int) (fun _ _ => rfl))))
theorem ok_z_number (T : Txt d mg z) : FnOk P w d.K mg base CX0 1 z.f_z_number z.d_z_number ["_law_cell"] (sp_z_number d) := by
  refine T.F_z_number.ok sc_z_number (fun vs H Q E h => by first | (exact lift_len (fun ds W Q h => by first | (obtain ⟨rfl, _⟩ := h; rfl) | (obtain ⟨_, rfl, _⟩ := h; rfl) | (obtain ⟨_, _, rfl, _⟩ := h; rfl) | (obtain ⟨_, _, _, rfl, _⟩ := h; rfl) | (obtain ⟨_, _, _, _, rfl, _⟩ := h; rfl) | (obtain ⟨_, _, _, _, _, rfl, _⟩ := h; rfl) | (obtain ⟨_, _, _, _, _, _, rfl, _⟩ := h; rfl) | (obtain ⟨_, _, _, _, _, _, _, rfl, _⟩ := h; rfl) | (obtain ⟨_, _, _, _, _, _, _, _, rfl, _⟩ := h; rfl) | (obtain ⟨_, _, _, _, _, _, _, _, _, rfl, _⟩ := h; rfl) | (obtain ⟨_, _, _, _, _, _, _, _, _, _, rfl, _⟩ := h; rfl) | (obtain ⟨_, _, _, _, _, _, _, _, _, _, _, rfl, _⟩ := h; rfl) | (obtain ⟨_, _, _, _, _, _, _, _, _, _, _, _, rfl, _⟩ := h; rfl) | (obtain ⟨_, _, _, _, _, _, _, _, _, _, _, _, _, rfl, _⟩ := h; rfl) | (obtain ⟨_, _, _, _, _, _, _, _, _, _, _, _, _, _, rfl, _⟩ := h; rfl) | (obtain ⟨_, _, _, _, _, _, _, _, _, _, _, _, _, _, _, rfl, _⟩ := h; rfl)) h) | (obtain ⟨rfl, _⟩ := h; rfl) | (obtain ⟨_, rfl, _⟩ := h; rfl) | (obtain ⟨_, _, rfl, _⟩ := h; rfl) | (obtain ⟨_, _, _, rfl, _⟩ := h; rfl) | (obtain ⟨_, _, _, _, rfl, _⟩ := h; rfl) | (obtain ⟨_, _, _, _, _, rfl, _⟩ := h; rfl) | (obtain ⟨_, _, _, _, _, _, rfl, _⟩ := h; rfl) | (obtain ⟨_, _, _, _, _, _, _, rfl, _⟩ := h; rfl) | (obtain ⟨_, _, _, _, _, _, _, _, rfl, _⟩ := h; rfl) | (obtain ⟨_, _, _, _, _, _, _, _, _, rfl, _⟩ := h; rfl) | (obtain ⟨_, _, _, _, _, _, _, _, _, _, rfl, _⟩ := h; rfl) | (obtain ⟨_, _, _, _, _, _, _, _, _, _, _, rfl, _⟩ := h; rfl) | (obtain ⟨_, _, _, _, _, _, _, _, _, _, _, _, rfl, _⟩ := h; rfl) | (obtain ⟨_, _, _, _, _, _, _, _, _, _, _, _, _, rfl, _⟩ := h; rfl) | (obtain ⟨_, _, _, _, _, _, _, _, _, _, _, _, _, _, rfl, _⟩ := h; rfl) | (obtain ⟨_, _, _, _, _, _, _, _, _, _, _, _, _, _, _, rfl, _⟩ := h; rfl)) (fun cdv A outer s H vs Q E hr h => ⟨t_z_number d, ?_, pure_z_number  h⟩)
  exact (pss_cons (ps_if (pt_cmpR op_eq (pe_op op_mod (pv 0) pe_int) pe_int (nomark _)) (pss_one (ps_ret (pe_op op_mod (pe_op op_fdiv (pv 0) pe_int) pe_int))) pss_nil)
      (pss_cons (ps_if (pt_cmpR op_eq (pe_op op_mod (pv 0) pe_int) pe_int (nomark _)) (pss_one (ps_ret (pe_op op_sub (pe_op op_sub (pe_op op_pow pe_int pe_int) pe_int) (pe_op op_mod (pe_op op_fdiv (pv 0) pe_int) pe_int)))) pss_nil)
      (pss_one (ps_ret (pe_op op_mod (pe_op op_fdiv (pv 0) pe_int) (pe_op op_pow pe_int pe_int))))))
theorem ok_z_plain_pair (T : Txt d mg z) : FnOk P w d.K mg base CX0 3 z.f_z_plain_pair z.d_z_plain_pair ["_law_way", "_law_cell"] (sp_z_plain_pair d) := by
  have G_z_slot := ok_z_slot (P := P) (w := w) (base := base) T
  have G_z_number := ok_z_number (P := P) (w := w) (base := base) T
  have G_z_name := ok_z_name (P := P) (w := w) (base := base) T
  have G_Let_init := ok_Let_init (P := P) (w := w) (base := base) T
  have G_Reckon_init := ok_Reckon_init (P := P) (w := w) (base := base) T
  have G_Take_init := ok_Take_init (P := P) (w := w) (base := base) T
  have G_Put_init := ok_Put_init (P := P) (w := w) (base := base) T
  have G_Throw_init := ok_Throw_init (P := P) (w := w) (base := base) T
  refine T.F_z_plain_pair.ok sc_z_plain_pair (fun vs H Q E h => by first | (exact lift_len (fun ds W Q h => by first | (obtain ⟨rfl, _⟩ := h; rfl) | (obtain ⟨_, rfl, _⟩ := h; rfl) | (obtain ⟨_, _, rfl, _⟩ := h; rfl) | (obtain ⟨_, _, _, rfl, _⟩ := h; rfl) | (obtain ⟨_, _, _, _, rfl, _⟩ := h; rfl) | (obtain ⟨_, _, _, _, _, rfl, _⟩ := h; rfl) | (obtain ⟨_, _, _, _, _, _, rfl, _⟩ := h; rfl) | (obtain ⟨_, _, _, _, _, _, _, rfl, _⟩ := h; rfl) | (obtain ⟨_, _, _, _, _, _, _, _, rfl, _⟩ := h; rfl) | (obtain ⟨_, _, _, _, _, _, _, _, _, rfl, _⟩ := h; rfl) | (obtain ⟨_, _, _, _, _, _, _, _, _, _, rfl, _⟩ := h; rfl) | (obtain ⟨_, _, _, _, _, _, _, _, _, _, _, rfl, _⟩ := h; rfl) | (obtain ⟨_, _, _, _, _, _, _, _, _, _, _, _, rfl, _⟩ := h; rfl) | (obtain ⟨_, _, _, _, _, _, _, _, _, _, _, _, _, rfl, _⟩ := h; rfl) | (obtain ⟨_, _, _, _, _, _, _, _, _, _, _, _, _, _, rfl, _⟩ := h; rfl) | (obtain ⟨_, _, _, _, _, _, _, _, _, _, _, _, _, _, _, rfl, _⟩ := h; rfl)) h) | (obtain ⟨rfl, _⟩ := h; rfl) | (obtain ⟨_, rfl, _⟩ := h; rfl) | (obtain ⟨_, _, rfl, _⟩ := h; rfl) | (obtain ⟨_, _, _, rfl, _⟩ := h; rfl) | (obtain ⟨_, _, _, _, rfl, _⟩ := h; rfl) | (obtain ⟨_, _, _, _, _, rfl, _⟩ := h; rfl) | (obtain ⟨_, _, _, _, _, _, rfl, _⟩ := h; rfl) | (obtain ⟨_, _, _, _, _, _, _, rfl, _⟩ := h; rfl) | (obtain ⟨_, _, _, _, _, _, _, _, rfl, _⟩ := h; rfl) | (obtain ⟨_, _, _, _, _, _, _, _, _, rfl, _⟩ := h; rfl) | (obtain ⟨_, _, _, _, _, _, _, _, _, _, rfl, _⟩ := h; rfl) | (obtain ⟨_, _, _, _, _, _, _, _, _, _, _, rfl, _⟩ := h; rfl) | (obtain ⟨_, _, _, _, _, _, _, _, _, _, _, _, rfl, _⟩ := h; rfl) | (obtain ⟨_, _, _, _, _, _, _, _, _, _, _, _, _, rfl, _⟩ := h; rfl) | (obtain ⟨_, _, _, _, _, _, _, _, _, _, _, _, _, _, rfl, _⟩ := h; rfl) | (obtain ⟨_, _, _, _, _, _, _, _, _, _, _, _, _, _, _, rfl, _⟩ := h; rfl)) (fun cdv A outer s H vs Q E hr h => ⟨t_z_plain_pair d, ?_, pure_z_plain_pair  h⟩)
  exact (pss_cons (ps_set (i := 2) sc_z_plain_pair.nd rfl (Or.inl rfl) (pe_op op_mod (pe_op op_mul (pv 1) pe_int) pe_int))
      (pss_cons (ps_set (i := 3) sc_z_plain_pair.nd rfl (Or.inl rfl) (pe_call G_z_slot (hr.mono (by omega)) rfl T.m_z_slot T.F_z_slot.kp T.B_z_slot .nil pass0 (pa_cons (pv 2) pa_nil)))
      (pss_cons (ps_set (i := 4) sc_z_plain_pair.nd rfl (Or.inl rfl) (pe_call G_z_slot (hr.mono (by omega)) rfl T.m_z_slot T.F_z_slot.kp T.B_z_slot .nil pass0 (pa_cons (pe_op op_fdiv (pv 2) pe_int) pa_nil)))
      (pss_cons (ps_set (i := 5) sc_z_plain_pair.nd rfl (Or.inl rfl) (pe_call G_z_number (hr.mono (by omega)) rfl T.m_z_number T.F_z_number.kp T.B_z_number .nil pass0 (pa_cons (pv 1) pa_nil)))
      (pss_cons (ps_set (i := 6) sc_z_plain_pair.nd rfl (Or.inl rfl) (pe_call G_z_name (hr.mono (by omega)) rfl T.m_z_name T.F_z_name.kp T.B_z_name .nil pass0 (pa_cons (pv 1) pa_nil)))
      (pss_cons (ps_if (pt_cmpR op_eq (pv 0) pe_int (nomark _)) (pss_one (ps_ret (pe_tup (pa_cons (pe_make T.K_Let G_Let_init (hr.mono (by omega)) rfl T.g_Let T.B_Let_init .nil pass0 (pa_cons (pv 3) (pa_cons (pv 5) pa_nil))) (pa_cons (pe_op op_add_str (pe_op op_add_str (pe_op op_add_str pe_str (pv 3)) pe_str) (pe_callTy call_str_int (by rfl) T.b_str (by decide +kernel) (pa_cons (pv 5) pa_nil))) pa_nil))))) pss_nil)
      (pss_cons (ps_if (pt_cmpR op_eq (pv 0) pe_int (nomark _)) (pss_cons (ps_set (i := 7) sc_z_plain_pair.nd rfl (Or.inl rfl) (pe_ix ix_list (pe_lst (pa_cons pe_str (pa_cons pe_str (pa_cons pe_str (pa_cons pe_str (pa_cons pe_str pa_nil)))))) (pe_op op_mod (pe_op op_fdiv (pv 2) pe_int) pe_int) (fun _ _ => rfl)))
      (pss_cons (ps_set (i := 8) sc_z_plain_pair.nd rfl (Or.inl rfl) (pe_call G_z_slot (hr.mono (by omega)) rfl T.m_z_slot T.F_z_slot.kp T.B_z_slot .nil pass0 (pa_cons (pe_op op_fdiv (pv 2) pe_int) pa_nil)))
      (pss_one (ps_ret (pe_tup (pa_cons (pe_make T.K_Reckon G_Reckon_init (hr.mono (by omega)) rfl T.g_Reckon T.B_Reckon_init .nil pass0 (pa_cons (pv 7) (pa_cons (pv 3) (pa_cons (pv 4) (pa_cons (pv 8) pa_nil))))) (pa_cons (pe_op op_add_str (pe_op op_add_str (pe_op op_add_str (pe_op op_add_str (pe_op op_add_str (pe_op op_add_str (pv 7) pe_str) (pv 3)) pe_str) (pv 4)) pe_str) (pv 8)) pa_nil))))))) pss_nil)
      (pss_cons (ps_if (pt_cmpR op_eq (pv 0) pe_int (nomark _)) (pss_one (ps_ret (pe_tup (pa_cons (pe_make T.K_Take G_Take_init (hr.mono (by omega)) rfl T.g_Take T.B_Take_init .nil pass0 (pa_cons (pv 3) (pa_cons (pv 4) pa_nil))) (pa_cons (pe_op op_add_str (pe_op op_add_str (pe_op op_add_str pe_str (pv 3)) pe_str) (pv 4)) pa_nil))))) pss_nil)
      (pss_cons (ps_if (pt_cmpR op_eq (pv 0) pe_int (nomark _)) (pss_one (ps_ret (pe_tup (pa_cons (pe_make T.K_Put G_Put_init (hr.mono (by omega)) rfl T.g_Put T.B_Put_init .nil pass0 (pa_cons (pv 3) (pa_cons (pv 4) pa_nil))) (pa_cons (pe_op op_add_str (pe_op op_add_str (pe_op op_add_str pe_str (pv 3)) pe_str) (pv 4)) pa_nil))))) pss_nil)
      (pss_cons (ps_if (pt_cmpR op_eq (pv 0) pe_int (nomark _)) (pss_one (ps_ret (pe_tup (pa_cons (pe_make T.K_Throw G_Throw_init (hr.mono (by omega)) rfl T.g_Throw T.B_Throw_init .nil pass0 (pa_cons (pv 6) (pa_cons (pv 3) pa_nil))) (pa_cons (pe_op op_add_str (pe_op op_add_str (pe_op op_add_str pe_str (pv 6)) pe_str) (pv 3)) pa_nil))))) pss_nil)
      (pss_one (ps_ret (pe_tup (pa_cons (pe_makeO T.MO_Wait rfl T.g_Wait) (pa_cons pe_str pa_nil)))))))))))))))
theorem ok_z_plain_right (T : Txt d mg z) : FnOk P w d.K mg base CX0 2 z.f_z_plain_right z.d_z_plain_right ["_law_part", "_law_way", "_law_cell"] (sp_z_plain_right d) := by
  have G_z_slot := ok_z_slot (P := P) (w := w) (base := base) T
  have G_z_number := ok_z_number (P := P) (w := w) (base := base) T
  have G_z_name := ok_z_name (P := P) (w := w) (base := base) T
  refine T.F_z_plain_right.ok sc_z_plain_right (fun vs H Q E h => by first | (exact lift_len (fun ds W Q h => by first | (obtain ⟨rfl, _⟩ := h; rfl) | (obtain ⟨_, rfl, _⟩ := h; rfl) | (obtain ⟨_, _, rfl, _⟩ := h; rfl) | (obtain ⟨_, _, _, rfl, _⟩ := h; rfl) | (obtain ⟨_, _, _, _, rfl, _⟩ := h; rfl) | (obtain ⟨_, _, _, _, _, rfl, _⟩ := h; rfl) | (obtain ⟨_, _, _, _, _, _, rfl, _⟩ := h; rfl) | (obtain ⟨_, _, _, _, _, _, _, rfl, _⟩ := h; rfl) | (obtain ⟨_, _, _, _, _, _, _, _, rfl, _⟩ := h; rfl) | (obtain ⟨_, _, _, _, _, _, _, _, _, rfl, _⟩ := h; rfl) | (obtain ⟨_, _, _, _, _, _, _, _, _, _, rfl, _⟩ := h; rfl) | (obtain ⟨_, _, _, _, _, _, _, _, _, _, _, rfl, _⟩ := h; rfl) | (obtain ⟨_, _, _, _, _, _, _, _, _, _, _, _, rfl, _⟩ := h; rfl) | (obtain ⟨_, _, _, _, _, _, _, _, _, _, _, _, _, rfl, _⟩ := h; rfl) | (obtain ⟨_, _, _, _, _, _, _, _, _, _, _, _, _, _, rfl, _⟩ := h; rfl) | (obtain ⟨_, _, _, _, _, _, _, _, _, _, _, _, _, _, _, rfl, _⟩ := h; rfl)) h) | (obtain ⟨rfl, _⟩ := h; rfl) | (obtain ⟨_, rfl, _⟩ := h; rfl) | (obtain ⟨_, _, rfl, _⟩ := h; rfl) | (obtain ⟨_, _, _, rfl, _⟩ := h; rfl) | (obtain ⟨_, _, _, _, rfl, _⟩ := h; rfl) | (obtain ⟨_, _, _, _, _, rfl, _⟩ := h; rfl) | (obtain ⟨_, _, _, _, _, _, rfl, _⟩ := h; rfl) | (obtain ⟨_, _, _, _, _, _, _, rfl, _⟩ := h; rfl) | (obtain ⟨_, _, _, _, _, _, _, _, rfl, _⟩ := h; rfl) | (obtain ⟨_, _, _, _, _, _, _, _, _, rfl, _⟩ := h; rfl) | (obtain ⟨_, _, _, _, _, _, _, _, _, _, rfl, _⟩ := h; rfl) | (obtain ⟨_, _, _, _, _, _, _, _, _, _, _, rfl, _⟩ := h; rfl) | (obtain ⟨_, _, _, _, _, _, _, _, _, _, _, _, rfl, _⟩ := h; rfl) | (obtain ⟨_, _, _, _, _, _, _, _, _, _, _, _, _, rfl, _⟩ := h; rfl) | (obtain ⟨_, _, _, _, _, _, _, _, _, _, _, _, _, _, rfl, _⟩ := h; rfl) | (obtain ⟨_, _, _, _, _, _, _, _, _, _, _, _, _, _, _, rfl, _⟩ := h; rfl)) (fun cdv A outer s H vs Q E hr h => ⟨t_z_plain_right d, ?_, pure_z_plain_right T.t_Parts T.t_PW h⟩)
  exact (pss_cons (ps_set (i := 3) sc_z_plain_right.nd rfl (Or.inl rfl) (pe_op op_mod (pe_op op_mul (pv 2) pe_int) pe_int))
      (pss_cons (ps_set (i := 4) sc_z_plain_right.nd rfl (Or.inl rfl) (pe_call G_z_slot (hr.mono (by omega)) rfl T.m_z_slot T.F_z_slot.kp T.B_z_slot .nil pass0 (pa_cons (pv 3) pa_nil)))
      (pss_cons (ps_set (i := 5) sc_z_plain_right.nd rfl (Or.inl rfl) (pe_call G_z_slot (hr.mono (by omega)) rfl T.m_z_slot T.F_z_slot.kp T.B_z_slot .nil pass0 (pa_cons (pe_op op_fdiv (pv 3) pe_int) pa_nil)))
      (pss_cons (ps_if (pt_cmpR op_eq (pv 1) pe_int (nomark _)) (pss_one (ps_ret (pe_and (pe_callB call_isi (by rfl) T.b_isinstance (by decide +kernel) (pa_cons (pv 0) (pa_cons (pe_glob rfl T.g_Let rfl) pa_nil))) (pe_and (pe_cmpR op_eq (pe_fld (pv 0) rfl) (pv 4) (nomark _)) (pe_one (pe_cmpR op_eq (pe_fld (pv 0) rfl) (pe_call G_z_number (hr.mono (by omega)) rfl T.m_z_number T.F_z_number.kp T.B_z_number .nil pass0 (pa_cons (pv 2) pa_nil)) (nomark _))))))) pss_nil)
      (pss_cons (ps_if (pt_cmpR op_eq (pv 1) pe_int (nomark _)) (pss_cons (ps_set (i := 6) sc_z_plain_right.nd rfl (Or.inl rfl) (pe_call G_z_slot (hr.mono (by omega)) rfl T.m_z_slot T.F_z_slot.kp T.B_z_slot .nil pass0 (pa_cons (pe_op op_fdiv (pv 3) pe_int) pa_nil)))
      (pss_cons (ps_set (i := 7) sc_z_plain_right.nd rfl (Or.inl rfl) (pe_ix ix_list (pe_lst (pa_cons pe_str (pa_cons pe_str (pa_cons pe_str (pa_cons pe_str (pa_cons pe_str pa_nil)))))) (pe_op op_mod (pe_op op_fdiv (pv 3) pe_int) pe_int) (fun _ _ => rfl)))
      (pss_cons (ps_set (i := 8) sc_z_plain_right.nd rfl (Or.inl rfl) (pe_lst (pa_cons (pv 7) (pa_cons (pv 4) (pa_cons (pv 5) (pa_cons (pv 6) pa_nil))))))
      (pss_one (ps_ret (pe_and (pe_callB call_isi (by rfl) T.b_isinstance (by decide +kernel) (pa_cons (pv 0) (pa_cons (pe_glob rfl T.g_Reckon rfl) pa_nil))) (pe_one (pe_cmpR (op_eqD hr.units) (pe_lst (pa_cons (pe_fld (pv 0) rfl) (pa_cons (pe_fld (pv 0) rfl) (pa_cons (pe_fld (pv 0) rfl) (pa_cons (pe_fld (pv 0) rfl) pa_nil))))) (pv 8) (nomark _))))))))) pss_nil)
      (pss_cons (ps_if (pt_cmpR op_eq (pv 1) pe_int (nomark _)) (pss_one (ps_ret (pe_and (pe_callB call_isi (by rfl) T.b_isinstance (by decide +kernel) (pa_cons (pv 0) (pa_cons (pe_glob rfl T.g_Take rfl) pa_nil))) (pe_one (pe_cmpR (op_eqD hr.units) (pe_lst (pa_cons (pe_fld (pv 0) rfl) (pa_cons (pe_fld (pv 0) rfl) pa_nil))) (pe_lst (pa_cons (pv 4) (pa_cons (pv 5) pa_nil))) (nomark _)))))) pss_nil)
      (pss_cons (ps_if (pt_cmpR op_eq (pv 1) pe_int (nomark _)) (pss_one (ps_ret (pe_and (pe_callB call_isi (by rfl) T.b_isinstance (by decide +kernel) (pa_cons (pv 0) (pa_cons (pe_glob rfl T.g_Put rfl) pa_nil))) (pe_one (pe_cmpR (op_eqD hr.units) (pe_lst (pa_cons (pe_fld (pv 0) rfl) (pa_cons (pe_fld (pv 0) rfl) pa_nil))) (pe_lst (pa_cons (pv 4) (pa_cons (pv 5) pa_nil))) (nomark _)))))) pss_nil)
      (pss_cons (ps_if (pt_cmpR op_eq (pv 1) pe_int (nomark _)) (pss_one (ps_ret (pe_and (pe_callB call_isi (by rfl) T.b_isinstance (by decide +kernel) (pa_cons (pv 0) (pa_cons (pe_glob rfl T.g_Throw rfl) pa_nil))) (pe_one (pe_cmpR (op_eqD hr.units) (pe_lst (pa_cons (pe_fld (pv 0) rfl) (pa_cons (pe_fld (pv 0) rfl) pa_nil))) (pe_lst (pa_cons (pe_call G_z_name (hr.mono (by omega)) rfl T.m_z_name T.F_z_name.kp T.B_z_name .nil pass0 (pa_cons (pv 2) pa_nil)) (pa_cons (pv 4) pa_nil))) (nomark _)))))) pss_nil)
      (pss_one (ps_ret (pe_callB call_isi (by rfl) T.b_isinstance (by decide +kernel) (pa_cons (pv 0) (pa_cons (pe_glob rfl T.g_Wait rfl) pa_nil)))))))))))))
theorem ok_z_shows (T : Txt d mg z) : FnOk P w d.K mg base CX0 62 z.f_z_shows z.d_z_shows ["_law_part", "_law_text", "_law_many"] (sp_z_shows d) := by
  have G_Part_shown := ok_Part_shown (P := P) (w := w) (base := base) T
  have G_Wait_shown := ok_Wait_shown (P := P) (w := w) (base := base) T
  have G_Throw_shown := ok_Throw_shown (P := P) (w := w) (base := base) T
  have G_Try_shown := ok_Try_shown (P := P) (w := w) (base := base) T
  have G_Either_shown := ok_Either_shown (P := P) (w := w) (base := base) T
  have G_If_shown := ok_If_shown (P := P) (w := w) (base := base) T
  have G_Put_shown := ok_Put_shown (P := P) (w := w) (base := base) T
  have G_Take_shown := ok_Take_shown (P := P) (w := w) (base := base) T
  have G_Reckon_shown := ok_Reckon_shown (P := P) (w := w) (base := base) T
  have G_Let_shown := ok_Let_shown (P := P) (w := w) (base := base) T
  have G_Part_long := ok_Part_long (P := P) (w := w) (base := base) T
  have G_Wait_long := ok_Wait_long (P := P) (w := w) (base := base) T
  have G_Throw_long := ok_Throw_long (P := P) (w := w) (base := base) T
  have G_Try_long := ok_Try_long (P := P) (w := w) (base := base) T
  have G_Either_long := ok_Either_long (P := P) (w := w) (base := base) T
  have G_If_long := ok_If_long (P := P) (w := w) (base := base) T
  have G_Put_long := ok_Put_long (P := P) (w := w) (base := base) T
  have G_Take_long := ok_Take_long (P := P) (w := w) (base := base) T
  have G_Reckon_long := ok_Reckon_long (P := P) (w := w) (base := base) T
  have G_Let_long := ok_Let_long (P := P) (w := w) (base := base) T
  have G_z_whole := ok_z_whole (P := P) (w := w) (base := base) T
  refine T.F_z_shows.ok sc_z_shows (fun vs H Q E h => by first | (exact lift_len (fun ds W Q h => by first | (obtain ⟨rfl, _⟩ := h; rfl) | (obtain ⟨_, rfl, _⟩ := h; rfl) | (obtain ⟨_, _, rfl, _⟩ := h; rfl) | (obtain ⟨_, _, _, rfl, _⟩ := h; rfl) | (obtain ⟨_, _, _, _, rfl, _⟩ := h; rfl) | (obtain ⟨_, _, _, _, _, rfl, _⟩ := h; rfl) | (obtain ⟨_, _, _, _, _, _, rfl, _⟩ := h; rfl) | (obtain ⟨_, _, _, _, _, _, _, rfl, _⟩ := h; rfl) | (obtain ⟨_, _, _, _, _, _, _, _, rfl, _⟩ := h; rfl) | (obtain ⟨_, _, _, _, _, _, _, _, _, rfl, _⟩ := h; rfl) | (obtain ⟨_, _, _, _, _, _, _, _, _, _, rfl, _⟩ := h; rfl) | (obtain ⟨_, _, _, _, _, _, _, _, _, _, _, rfl, _⟩ := h; rfl) | (obtain ⟨_, _, _, _, _, _, _, _, _, _, _, _, rfl, _⟩ := h; rfl) | (obtain ⟨_, _, _, _, _, _, _, _, _, _, _, _, _, rfl, _⟩ := h; rfl) | (obtain ⟨_, _, _, _, _, _, _, _, _, _, _, _, _, _, rfl, _⟩ := h; rfl) | (obtain ⟨_, _, _, _, _, _, _, _, _, _, _, _, _, _, _, rfl, _⟩ := h; rfl)) h) | (obtain ⟨rfl, _⟩ := h; rfl) | (obtain ⟨_, rfl, _⟩ := h; rfl) | (obtain ⟨_, _, rfl, _⟩ := h; rfl) | (obtain ⟨_, _, _, rfl, _⟩ := h; rfl) | (obtain ⟨_, _, _, _, rfl, _⟩ := h; rfl) | (obtain ⟨_, _, _, _, _, rfl, _⟩ := h; rfl) | (obtain ⟨_, _, _, _, _, _, rfl, _⟩ := h; rfl) | (obtain ⟨_, _, _, _, _, _, _, rfl, _⟩ := h; rfl) | (obtain ⟨_, _, _, _, _, _, _, _, rfl, _⟩ := h; rfl) | (obtain ⟨_, _, _, _, _, _, _, _, _, rfl, _⟩ := h; rfl) | (obtain ⟨_, _, _, _, _, _, _, _, _, _, rfl, _⟩ := h; rfl) | (obtain ⟨_, _, _, _, _, _, _, _, _, _, _, rfl, _⟩ := h; rfl) | (obtain ⟨_, _, _, _, _, _, _, _, _, _, _, _, rfl, _⟩ := h; rfl) | (obtain ⟨_, _, _, _, _, _, _, _, _, _, _, _, _, rfl, _⟩ := h; rfl) | (obtain ⟨_, _, _, _, _, _, _, _, _, _, _, _, _, _, rfl, _⟩ := h; rfl) | (obtain ⟨_, _, _, _, _, _, _, _, _, _, _, _, _, _, _, rfl, _⟩ := h; rfl)) (fun cdv A outer s H vs Q E hr h => ⟨t_z_shows d, ?_, pure_z_shows T.t_Parts T.t_PP T.t_PO h⟩)
  exact (pss_cons (ps_set (i := 3) sc_z_shows.nd rfl (Or.inl rfl) (pe_alt (pe_meth0 (pv 0) (show Cls d.K d.cLet from T.t_Parts.cl .let_) T.M_Let_shown G_Let_shown (hr.mono (by omega)) T.B_Let_shown .nil pass0) (pe_alt (pe_meth0 (pv 0) (show Cls d.K d.cReckon from T.t_Parts.cl .rk) T.M_Reckon_shown G_Reckon_shown (hr.mono (by omega)) T.B_Reckon_shown .nil pass0) (pe_alt (pe_meth0 (pv 0) (show Cls d.K d.cTake from T.t_Parts.cl .take) T.M_Take_shown G_Take_shown (hr.mono (by omega)) T.B_Take_shown .nil pass0) (pe_alt (pe_meth0 (pv 0) (show Cls d.K d.cPut from T.t_Parts.cl .put) T.M_Put_shown G_Put_shown (hr.mono (by omega)) T.B_Put_shown .nil pass0) (pe_alt (pe_meth0 (pv 0) (show Cls d.K d.cIf from T.t_Parts.cl .iff) T.M_If_shown G_If_shown (hr.mono (by omega)) T.B_If_shown .nil pass0) (pe_alt (pe_meth0 (pv 0) (show Cls d.K d.cEither from T.t_Parts.cl .eith) T.M_Either_shown G_Either_shown (hr.mono (by omega)) T.B_Either_shown .nil pass0) (pe_alt (pe_meth0 (pv 0) (show Cls d.K d.cTry from T.t_Parts.cl .tryy) T.M_Try_shown G_Try_shown (hr.mono (by omega)) T.B_Try_shown .nil pass0) (pe_alt (pe_meth0 (pv 0) (show Cls d.K d.cThrow from T.t_Parts.cl .throw) T.M_Throw_shown G_Throw_shown (hr.mono (by omega)) T.B_Throw_shown .nil pass0) (pe_alt (pe_meth0 (pv 0) (show Cls d.K d.cWait from T.t_Parts.cl .wait) T.M_Wait_shown G_Wait_shown (hr.mono (by omega)) T.B_Wait_shown .nil pass0) (pe_meth0 (pv 0) T.t_PO.cl T.M_Part_shown G_Part_shown (hr.mono (by omega)) T.B_Part_shown .nil pass0)))))))))))
      (pss_cons (ps_set (i := 4) sc_z_shows.nd rfl (Or.inl rfl) (pe_alt (pe_meth0 (pv 0) (show Cls d.K d.cLet from T.t_Parts.cl .let_) T.M_Let_long G_Let_long (hr.mono (by omega)) T.B_Let_long .nil pass0) (pe_alt (pe_meth0 (pv 0) (show Cls d.K d.cReckon from T.t_Parts.cl .rk) T.M_Reckon_long G_Reckon_long (hr.mono (by omega)) T.B_Reckon_long .nil pass0) (pe_alt (pe_meth0 (pv 0) (show Cls d.K d.cTake from T.t_Parts.cl .take) T.M_Take_long G_Take_long (hr.mono (by omega)) T.B_Take_long .nil pass0) (pe_alt (pe_meth0 (pv 0) (show Cls d.K d.cPut from T.t_Parts.cl .put) T.M_Put_long G_Put_long (hr.mono (by omega)) T.B_Put_long .nil pass0) (pe_alt (pe_meth0 (pv 0) (show Cls d.K d.cIf from T.t_Parts.cl .iff) T.M_If_long G_If_long (hr.mono (by omega)) T.B_If_long .nil pass0) (pe_alt (pe_meth0 (pv 0) (show Cls d.K d.cEither from T.t_Parts.cl .eith) T.M_Either_long G_Either_long (hr.mono (by omega)) T.B_Either_long .nil pass0) (pe_alt (pe_meth0 (pv 0) (show Cls d.K d.cTry from T.t_Parts.cl .tryy) T.M_Try_long G_Try_long (hr.mono (by omega)) T.B_Try_long .nil pass0) (pe_alt (pe_meth0 (pv 0) (show Cls d.K d.cThrow from T.t_Parts.cl .throw) T.M_Throw_long G_Throw_long (hr.mono (by omega)) T.B_Throw_long .nil pass0) (pe_alt (pe_meth0 (pv 0) (show Cls d.K d.cWait from T.t_Parts.cl .wait) T.M_Wait_long G_Wait_long (hr.mono (by omega)) T.B_Wait_long .nil pass0) (pe_meth0 (pv 0) T.t_PO.cl T.M_Part_long G_Part_long (hr.mono (by omega)) T.B_Part_long .nil pass0)))))))))))
      (pss_one (ps_ret (pe_and (pe_callB call_isi (by rfl) T.b_isinstance (by decide +kernel) (pa_cons (pv 0) (pa_cons (pe_glob rfl T.g_Part rfl) pa_nil))) (pe_and (pe_callB call_isi (by rfl) T.b_isinstance (by decide +kernel) (pa_cons (pv 3) (pa_cons (pe_bltn (v := .ty "str") (by rfl) T.b_str (by decide +kernel) rfl) pa_nil))) (pe_and (pe_cmpR op_eq (pv 3) (pv 1) (nomark _)) (pe_and (pe_call G_z_whole (hr.mono (by omega)) rfl T.m_z_whole T.F_z_whole.kp T.B_z_whole .nil pass0 (pa_cons (pv 4) pa_nil)) (pe_one (pe_cmpR op_eq (pv 4) (pv 2) (nomark _)))))))))))
theorem ok_z_side (T : Txt d mg z) : FnOk P w d.K mg base CX0 4 z.f_z_side z.d_z_side ["_law_cell"] (sp_z_side d) := by
  have G_z_plain_pair := ok_z_plain_pair (P := P) (w := w) (base := base) T
  refine T.F_z_side.ok sc_z_side (fun vs H Q E h => by first | (exact lift_len (fun ds W Q h => by first | (obtain ⟨rfl, _⟩ := h; rfl) | (obtain ⟨_, rfl, _⟩ := h; rfl) | (obtain ⟨_, _, rfl, _⟩ := h; rfl) | (obtain ⟨_, _, _, rfl, _⟩ := h; rfl) | (obtain ⟨_, _, _, _, rfl, _⟩ := h; rfl) | (obtain ⟨_, _, _, _, _, rfl, _⟩ := h; rfl) | (obtain ⟨_, _, _, _, _, _, rfl, _⟩ := h; rfl) | (obtain ⟨_, _, _, _, _, _, _, rfl, _⟩ := h; rfl) | (obtain ⟨_, _, _, _, _, _, _, _, rfl, _⟩ := h; rfl) | (obtain ⟨_, _, _, _, _, _, _, _, _, rfl, _⟩ := h; rfl) | (obtain ⟨_, _, _, _, _, _, _, _, _, _, rfl, _⟩ := h; rfl) | (obtain ⟨_, _, _, _, _, _, _, _, _, _, _, rfl, _⟩ := h; rfl) | (obtain ⟨_, _, _, _, _, _, _, _, _, _, _, _, rfl, _⟩ := h; rfl) | (obtain ⟨_, _, _, _, _, _, _, _, _, _, _, _, _, rfl, _⟩ := h; rfl) | (obtain ⟨_, _, _, _, _, _, _, _, _, _, _, _, _, _, rfl, _⟩ := h; rfl) | (obtain ⟨_, _, _, _, _, _, _, _, _, _, _, _, _, _, _, rfl, _⟩ := h; rfl)) h) | (obtain ⟨rfl, _⟩ := h; rfl) | (obtain ⟨_, rfl, _⟩ := h; rfl) | (obtain ⟨_, _, rfl, _⟩ := h; rfl) | (obtain ⟨_, _, _, rfl, _⟩ := h; rfl) | (obtain ⟨_, _, _, _, rfl, _⟩ := h; rfl) | (obtain ⟨_, _, _, _, _, rfl, _⟩ := h; rfl) | (obtain ⟨_, _, _, _, _, _, rfl, _⟩ := h; rfl) | (obtain ⟨_, _, _, _, _, _, _, rfl, _⟩ := h; rfl) | (obtain ⟨_, _, _, _, _, _, _, _, rfl, _⟩ := h; rfl) | (obtain ⟨_, _, _, _, _, _, _, _, _, rfl, _⟩ := h; rfl) | (obtain ⟨_, _, _, _, _, _, _, _, _, _, rfl, _⟩ := h; rfl) | (obtain ⟨_, _, _, _, _, _, _, _, _, _, _, rfl, _⟩ := h; rfl) | (obtain ⟨_, _, _, _, _, _, _, _, _, _, _, _, rfl, _⟩ := h; rfl) | (obtain ⟨_, _, _, _, _, _, _, _, _, _, _, _, _, rfl, _⟩ := h; rfl) | (obtain ⟨_, _, _, _, _, _, _, _, _, _, _, _, _, _, rfl, _⟩ := h; rfl) | (obtain ⟨_, _, _, _, _, _, _, _, _, _, _, _, _, _, _, rfl, _⟩ := h; rfl)) (fun cdv A outer s H vs Q E hr h => ⟨t_z_side d, ?_, pure_z_side  h⟩)
  exact (pss_cons (ps_set (i := 1) sc_z_side.nd rfl (Or.inl rfl) (pe_lst pa_nil))
      (pss_cons (ps_for PassesOwn.never rfl (pi_range1 rfl T.b_range (pa_cons (pe_op op_mod (pv 0) pe_int) pa_nil)) (pg_name (i := 2) sc_z_side.nd rfl (Or.inl rfl)) (pss_one (ps_expr (pe_bm PySem.F.plainAttrs_list PySem.F.slot_list_append PySem.F.type_list_append mt_append (pv 1) (pa_cons (pe_call G_z_plain_pair (hr.mono (by omega)) rfl T.m_z_plain_pair T.F_z_plain_pair.kp T.B_z_plain_pair .nil pass0 (pa_cons (pe_op op_mod (pe_op op_add (pe_op op_fdiv (pv 0) pe_int) (pv 2)) pe_int) (pa_cons (pe_op op_add (pe_op op_fdiv (pv 0) pe_int) (pe_op op_mul (pv 2) pe_int)) pa_nil))) pa_nil)))))
      (pss_cons (ps_set (i := 3) sc_z_side.nd rfl (Or.inl rfl) (pe_op op_catQ (pe_op op_catQ (pe_lst (pa_cons pe_str pa_nil)) (pe_op op_rep (pe_lst (pa_cons (pe_join pe_str (pe_lc (own := [("_law_pair", 4)]) rfl sc_z_side.nd (pi_list (pv 1)) (blkOk_by (own := [("_law_pair", 4)]) (N := N_z_side) (sc := (defScope s_z_side)) (by decide +kernel)) (fun _ _ _ _ _ => (pg_name (i := 4) sc_z_side.nd rfl (Or.inl rfl))) (fun _ _ _ _ _ => pts_nil) (fun _ _ _ _ _ => (pe_ix ix_tup (pv 4) pe_int (fun _ _ => rfl))))) pa_nil)) (pe_callTy call_int1 (by rfl) T.b_int (by decide +kernel) (pa_cons (pe_cmpR o_gt (pe_callB call_len_seq (by rfl) T.b_len (by decide +kernel) (pa_cons (pv 1) pa_nil)) pe_int (nomark _)) pa_nil)))) (pe_lst (pa_cons pe_str pa_nil))))
      (pss_one (ps_ret (pe_tup (pa_cons (pe_lc (own := [("_law_pair", 4)]) rfl sc_z_side.nd (pi_list (pv 1)) (blkOk_by (own := [("_law_pair", 4)]) (N := N_z_side) (sc := (defScope s_z_side)) (by decide +kernel)) (fun _ _ _ _ _ => (pg_name (i := 4) sc_z_side.nd rfl (Or.inl rfl))) (fun _ _ _ _ _ => pts_nil) (fun _ _ _ _ _ => (pe_ix ix_tup (pv 4) pe_int (fun _ _ => rfl)))) (pa_cons (pe_join pe_str (pv 3)) pa_nil))))))))
theorem ok_z_sided (T : Txt d mg z) : FnOk P w d.K mg base CX0 63 z.f_z_sided z.d_z_sided ["_law_way", "_law_cell"] (sp_z_sided d) := by
  have G_z_side := ok_z_side (P := P) (w := w) (base := base) T
  have G_z_slot := ok_z_slot (P := P) (w := w) (base := base) T
  have G_z_name := ok_z_name (P := P) (w := w) (base := base) T
  have G_If_init := ok_If_init (P := P) (w := w) (base := base) T
  have G_Either_init := ok_Either_init (P := P) (w := w) (base := base) T
  have G_Try_init := ok_Try_init (P := P) (w := w) (base := base) T
  have G_z_shows := ok_z_shows (P := P) (w := w) (base := base) T
  refine T.F_z_sided.ok sc_z_sided (fun vs H Q E h => by first | (exact lift_len (fun ds W Q h => by first | (obtain ⟨rfl, _⟩ := h; rfl) | (obtain ⟨_, rfl, _⟩ := h; rfl) | (obtain ⟨_, _, rfl, _⟩ := h; rfl) | (obtain ⟨_, _, _, rfl, _⟩ := h; rfl) | (obtain ⟨_, _, _, _, rfl, _⟩ := h; rfl) | (obtain ⟨_, _, _, _, _, rfl, _⟩ := h; rfl) | (obtain ⟨_, _, _, _, _, _, rfl, _⟩ := h; rfl) | (obtain ⟨_, _, _, _, _, _, _, rfl, _⟩ := h; rfl) | (obtain ⟨_, _, _, _, _, _, _, _, rfl, _⟩ := h; rfl) | (obtain ⟨_, _, _, _, _, _, _, _, _, rfl, _⟩ := h; rfl) | (obtain ⟨_, _, _, _, _, _, _, _, _, _, rfl, _⟩ := h; rfl) | (obtain ⟨_, _, _, _, _, _, _, _, _, _, _, rfl, _⟩ := h; rfl) | (obtain ⟨_, _, _, _, _, _, _, _, _, _, _, _, rfl, _⟩ := h; rfl) | (obtain ⟨_, _, _, _, _, _, _, _, _, _, _, _, _, rfl, _⟩ := h; rfl) | (obtain ⟨_, _, _, _, _, _, _, _, _, _, _, _, _, _, rfl, _⟩ := h; rfl) | (obtain ⟨_, _, _, _, _, _, _, _, _, _, _, _, _, _, _, rfl, _⟩ := h; rfl)) h) | (obtain ⟨rfl, _⟩ := h; rfl) | (obtain ⟨_, rfl, _⟩ := h; rfl) | (obtain ⟨_, _, rfl, _⟩ := h; rfl) | (obtain ⟨_, _, _, rfl, _⟩ := h; rfl) | (obtain ⟨_, _, _, _, rfl, _⟩ := h; rfl) | (obtain ⟨_, _, _, _, _, rfl, _⟩ := h; rfl) | (obtain ⟨_, _, _, _, _, _, rfl, _⟩ := h; rfl) | (obtain ⟨_, _, _, _, _, _, _, rfl, _⟩ := h; rfl) | (obtain ⟨_, _, _, _, _, _, _, _, rfl, _⟩ := h; rfl) | (obtain ⟨_, _, _, _, _, _, _, _, _, rfl, _⟩ := h; rfl) | (obtain ⟨_, _, _, _, _, _, _, _, _, _, rfl, _⟩ := h; rfl) | (obtain ⟨_, _, _, _, _, _, _, _, _, _, _, rfl, _⟩ := h; rfl) | (obtain ⟨_, _, _, _, _, _, _, _, _, _, _, _, rfl, _⟩ := h; rfl) | (obtain ⟨_, _, _, _, _, _, _, _, _, _, _, _, _, rfl, _⟩ := h; rfl) | (obtain ⟨_, _, _, _, _, _, _, _, _, _, _, _, _, _, rfl, _⟩ := h; rfl) | (obtain ⟨_, _, _, _, _, _, _, _, _, _, _, _, _, _, _, rfl, _⟩ := h; rfl)) (fun cdv A outer s H vs Q E hr h => ⟨t_z_sided d, ?_, pure_z_sided T.t_Parts h⟩)
  exact (pss_cons (ps_asg (pe_call G_z_side (hr.mono (by omega)) rfl T.m_z_side T.F_z_side.kp T.B_z_side .nil pass0 (pa_cons (pv 1) pa_nil)) (pg_tup rfl (pgs_cons (pg_name (i := 2) sc_z_sided.nd rfl (Or.inl rfl)) (pgs_cons (pg_name (i := 3) sc_z_sided.nd rfl (Or.inl rfl)) pgs_nil))))
      (pss_cons (ps_asg (pe_call G_z_side (hr.mono (by omega)) rfl T.m_z_side T.F_z_side.kp T.B_z_side .nil pass0 (pa_cons (pe_op op_mod (pe_op op_mul (pv 1) pe_int) pe_int) pa_nil)) (pg_tup rfl (pgs_cons (pg_name (i := 4) sc_z_sided.nd rfl (Or.inl rfl)) (pgs_cons (pg_name (i := 5) sc_z_sided.nd rfl (Or.inl rfl)) pgs_nil))))
      (pss_cons (ps_set (i := 6) sc_z_sided.nd rfl (Or.inl rfl) (pe_lst (pa_cons (pe_callTy call_list_of (by rfl) T.b_list (by decide +kernel) (pa_cons (pv 2) pa_nil)) (pa_cons (pe_callTy call_list_of (by rfl) T.b_list (by decide +kernel) (pa_cons (pv 4) pa_nil)) pa_nil))))
      (pss_cons (ps_set (i := 7) sc_z_sided.nd rfl (Or.inl rfl) (pe_call G_z_slot (hr.mono (by omega)) rfl T.m_z_slot T.F_z_slot.kp T.B_z_slot .nil pass0 (pa_cons (pe_op op_fdiv (pv 1) pe_int) pa_nil)))
      (pss_cons (ps_set (i := 8) sc_z_sided.nd rfl (Or.inl rfl) (pe_call G_z_name (hr.mono (by omega)) rfl T.m_z_name T.F_z_name.kp T.B_z_name .nil pass0 (pa_cons (pe_op op_fdiv (pv 1) pe_int) pa_nil)))
      (Evl.pss_cut (ps_if (pt_cmpR op_eq (pv 0) pe_int (nomark _)) (pss_cons (ps_set (i := 9) sc_z_sided.nd rfl (Or.inl rfl) (pe_make T.K_If G_If_init (hr.mono (by omega)) rfl T.g_If T.B_If_init .nil pass0 (pa_cons (pv 7) (pa_cons (pe_ix ix_list (pv 6) pe_int (fun _ _ => rfl)) (pa_cons (pe_ix ix_list (pv 6) pe_int (fun _ _ => rfl)) pa_nil)))))
      (pss_cons (ps_set (i := 10) sc_z_sided.nd rfl (Or.inl rfl) (pe_op op_add_str (pe_op op_add_str (pe_op op_add_str (pe_op op_add_str (pe_op op_add_str pe_str (pv 7)) pe_str) (pv 3)) pe_str) (pv 5)))
      (pss_one (ps_set (i := 11) sc_z_sided.nd rfl (Or.inl rfl) (pe_and (pe_callB call_isi (by rfl) T.b_isinstance (by decide +kernel) (pa_cons (pv 9) (pa_cons (pe_glob rfl T.g_If rfl) pa_nil))) (pe_one (pe_cmpR op_eq (pe_fld (pv 9) rfl) (pv 7) (nomark _)))))))) (pss_one (ps_if (pt_cmpR op_eq (pv 0) pe_int (nomark _)) (pss_cons (ps_set (i := 9) sc_z_sided.nd rfl (Or.inl rfl) (pe_make T.K_Either G_Either_init (hr.mono (by omega)) rfl T.g_Either T.B_Either_init .nil pass0 (pa_cons (pe_ix ix_list (pv 6) pe_int (fun _ _ => rfl)) (pa_cons (pe_ix ix_list (pv 6) pe_int (fun _ _ => rfl)) pa_nil))))
      (pss_cons (ps_set (i := 10) sc_z_sided.nd rfl (Or.inl rfl) (pe_op op_add_str (pe_op op_add_str (pe_op op_add_str pe_str (pv 3)) pe_str) (pv 5)))
      (pss_one (ps_set (i := 11) sc_z_sided.nd rfl (Or.inl rfl) (pe_callB call_isi (by rfl) T.b_isinstance (by decide +kernel) (pa_cons (pv 9) (pa_cons (pe_glob rfl T.g_Either rfl) pa_nil))))))) (pss_cons (ps_set (i := 9) sc_z_sided.nd rfl (Or.inl rfl) (pe_make T.K_Try G_Try_init (hr.mono (by omega)) rfl T.g_Try T.B_Try_init .nil pass0 (pa_cons (pe_ix ix_list (pv 6) pe_int (fun _ _ => rfl)) (pa_cons (pv 8) (pa_cons (pv 7) (pa_cons (pe_ix ix_list (pv 6) pe_int (fun _ _ => rfl)) pa_nil))))))
      (pss_cons (ps_set (i := 10) sc_z_sided.nd rfl (Or.inl rfl) (pe_op op_add_str (pe_op op_add_str (pe_op op_add_str (pe_op op_add_str (pe_op op_add_str (pe_op op_add_str (pe_op op_add_str pe_str (pv 3)) pe_str) (pv 8)) pe_str) (pv 7)) pe_str) (pv 5)))
      (pss_one (ps_set (i := 11) sc_z_sided.nd rfl (Or.inl rfl) (pe_and (pe_callB call_isi (by rfl) T.b_isinstance (by decide +kernel) (pa_cons (pv 9) (pa_cons (pe_glob rfl T.g_Try rfl) pa_nil))) (pe_and (pe_cmpR op_eq (pe_fld (pv 9) rfl) (pv 7) (nomark _)) (pe_one (pe_cmpR op_eq (pe_fld (pv 9) rfl) (pv 8) (nomark _))))))))))))
      (pss_cons (ps_if (PW.pt (pw_or (pt_not (pt_val (pv 11))) (pw_or (pt_cmpR op_ne (pe_callB call_len_seq (by rfl) T.b_len (by decide +kernel) (pa_cons (pe_ix ix_list (pv 6) pe_int (fun _ _ => rfl)) pa_nil)) (pe_callB call_len_seq (by rfl) T.b_len (by decide +kernel) (pa_cons (pv 2) pa_nil)) (nomark _)) (pw_or1 (pt_cmpR op_ne (pe_callB call_len_seq (by rfl) T.b_len (by decide +kernel) (pa_cons (pe_ix ix_list (pv 6) pe_int (fun _ _ => rfl)) pa_nil)) (pe_callB call_len_seq (by rfl) T.b_len (by decide +kernel) (pa_cons (pv 4) pa_nil)) (nomark _)))))) (pss_one (ps_ret pe_bl)) pss_nil)
      (pss_cons (ps_expr (pe_bm0 PySem.F.plainAttrs_list PySem.F.slot_list_clear PySem.F.type_list_clear mt_clear (pe_ix ix_list (pv 6) pe_int (fun _ _ => rfl))))
      (pss_cons (ps_expr (pe_bm PySem.F.plainAttrs_list PySem.F.slot_list_append PySem.F.type_list_append mt_append (pe_ix ix_list (pv 6) pe_int (fun _ _ => rfl)) (pa_cons (pe_makeO T.MO_Wait rfl T.g_Wait) pa_nil)))
      (pss_cons (ps_if (PW.pt (pw_or (pt_not (pt_val (pe_callB call_isi (by rfl) T.b_isinstance (by decide +kernel) (pa_cons (pe_fld (pv 9) rfl) (pa_cons (pe_bltn (v := .ty "list") (by rfl) T.b_list (by decide +kernel) rfl) pa_nil))))) (pw_or1 (pt_not (pt_val (pe_callB call_isi (by rfl) T.b_isinstance (by decide +kernel) (pa_cons (pe_fld (pv 9) rfl) (pa_cons (pe_bltn (v := .ty "list") (by rfl) T.b_list (by decide +kernel) rfl) pa_nil)))))))) (pss_one (ps_ret pe_bl)) pss_nil)
      (pss_cons (ps_if (PW.pt (pw_or (pt_cmpR op_ne (pe_callB call_len_seq (by rfl) T.b_len (by decide +kernel) (pa_cons (pe_fld (pv 9) rfl) pa_nil)) (pe_callB call_len_seq (by rfl) T.b_len (by decide +kernel) (pa_cons (pv 2) pa_nil)) (nomark _)) (pw_or1 (pt_cmpR op_ne (pe_callB call_len_seq (by rfl) T.b_len (by decide +kernel) (pa_cons (pe_fld (pv 9) rfl) pa_nil)) (pe_callB call_len_seq (by rfl) T.b_len (by decide +kernel) (pa_cons (pv 4) pa_nil)) (nomark _))))) (pss_one (ps_ret pe_bl)) pss_nil)
      (pss_one (ps_ret (pe_call G_z_shows (hr.mono (by omega)) rfl T.m_z_shows T.F_z_shows.kp T.B_z_shows .nil pass0 (pa_cons (pv 9) (pa_cons (pv 10) (pa_cons (pe_op op_add (pe_op op_add (pe_op op_add pe_int (pe_callTy call_int1 (by rfl) T.b_int (by decide +kernel) (pa_cons (pe_cmpR o_gt (pv 0) pe_int (nomark _)) pa_nil))) (pe_callB call_len_seq (by rfl) T.b_len (by decide +kernel) (pa_cons (pv 2) pa_nil))) (pe_callB call_len_seq (by rfl) T.b_len (by decide +kernel) (pa_cons (pv 4) pa_nil))) pa_nil)))))))))))))))))
theorem ok_law (T : Txt d mg z) : FnOk P w d.K mg base CX0 64 z.f_law z.d_law ["_law_script"] (sp_law d) := by
  have G_z_shows := ok_z_shows (P := P) (w := w) (base := base) T
  have G_z_sided := ok_z_sided (P := P) (w := w) (base := base) T
  have G_z_plain_pair := ok_z_plain_pair (P := P) (w := w) (base := base) T
  have G_z_plain_right := ok_z_plain_right (P := P) (w := w) (base := base) T
  refine T.F_law.ok sc_law (fun vs H Q E h => by first | (exact lift_len (fun ds W Q h => by first | (obtain ⟨rfl, _⟩ := h; rfl) | (obtain ⟨_, rfl, _⟩ := h; rfl) | (obtain ⟨_, _, rfl, _⟩ := h; rfl) | (obtain ⟨_, _, _, rfl, _⟩ := h; rfl) | (obtain ⟨_, _, _, _, rfl, _⟩ := h; rfl) | (obtain ⟨_, _, _, _, _, rfl, _⟩ := h; rfl) | (obtain ⟨_, _, _, _, _, _, rfl, _⟩ := h; rfl) | (obtain ⟨_, _, _, _, _, _, _, rfl, _⟩ := h; rfl) | (obtain ⟨_, _, _, _, _, _, _, _, rfl, _⟩ := h; rfl) | (obtain ⟨_, _, _, _, _, _, _, _, _, rfl, _⟩ := h; rfl) | (obtain ⟨_, _, _, _, _, _, _, _, _, _, rfl, _⟩ := h; rfl) | (obtain ⟨_, _, _, _, _, _, _, _, _, _, _, rfl, _⟩ := h; rfl) | (obtain ⟨_, _, _, _, _, _, _, _, _, _, _, _, rfl, _⟩ := h; rfl) | (obtain ⟨_, _, _, _, _, _, _, _, _, _, _, _, _, rfl, _⟩ := h; rfl) | (obtain ⟨_, _, _, _, _, _, _, _, _, _, _, _, _, _, rfl, _⟩ := h; rfl) | (obtain ⟨_, _, _, _, _, _, _, _, _, _, _, _, _, _, _, rfl, _⟩ := h; rfl)) h) | (obtain ⟨rfl, _⟩ := h; rfl) | (obtain ⟨_, rfl, _⟩ := h; rfl) | (obtain ⟨_, _, rfl, _⟩ := h; rfl) | (obtain ⟨_, _, _, rfl, _⟩ := h; rfl) | (obtain ⟨_, _, _, _, rfl, _⟩ := h; rfl) | (obtain ⟨_, _, _, _, _, rfl, _⟩ := h; rfl) | (obtain ⟨_, _, _, _, _, _, rfl, _⟩ := h; rfl) | (obtain ⟨_, _, _, _, _, _, _, rfl, _⟩ := h; rfl) | (obtain ⟨_, _, _, _, _, _, _, _, rfl, _⟩ := h; rfl) | (obtain ⟨_, _, _, _, _, _, _, _, _, rfl, _⟩ := h; rfl) | (obtain ⟨_, _, _, _, _, _, _, _, _, _, rfl, _⟩ := h; rfl) | (obtain ⟨_, _, _, _, _, _, _, _, _, _, _, rfl, _⟩ := h; rfl) | (obtain ⟨_, _, _, _, _, _, _, _, _, _, _, _, rfl, _⟩ := h; rfl) | (obtain ⟨_, _, _, _, _, _, _, _, _, _, _, _, _, rfl, _⟩ := h; rfl) | (obtain ⟨_, _, _, _, _, _, _, _, _, _, _, _, _, _, rfl, _⟩ := h; rfl) | (obtain ⟨_, _, _, _, _, _, _, _, _, _, _, _, _, _, _, rfl, _⟩ := h; rfl)) (fun cdv A outer s H vs Q E hr h => ⟨t_law d, ?_, pure_law T.t_Parts T.t_PW h⟩)
  exact (pss_cons (ps_if (pt_not (pt_val (pe_call G_z_shows (hr.mono (by omega)) rfl T.m_z_shows T.F_z_shows.kp T.B_z_shows .nil pass0 (pa_cons (pe_makeO T.MO_Part rfl T.g_Part) (pa_cons pe_str (pa_cons pe_int pa_nil)))))) (pss_one (ps_ret pe_bl)) pss_nil)
      (pss_cons (ps_set (i := 1) sc_law.nd rfl (Or.inl rfl) (pe_op op_catQ (pe_lst (pa_cons pe_int (pa_cons pe_int (pa_cons pe_int (pa_cons pe_int (pa_cons pe_int (pa_cons pe_int (pa_cons pe_int (pa_cons pe_int (pa_cons pe_int pa_nil)))))))))) (pe_slice sl_list (pv 0) po_none (po_some pe_int))))
      (pss_cons (ps_for PassesOwn.never rfl (pi_range1 rfl T.b_range (pa_cons (pe_callB call_len_seq (by rfl) T.b_len (by decide +kernel) (pa_cons (pv 1) pa_nil)) pa_nil)) (pg_name (i := 2) sc_law.nd rfl (Or.inl rfl)) (pss_cons (ps_set (i := 3) sc_law.nd rfl (Or.inl rfl) (pe_op op_mod (pe_ix ix_list (pv 1) (pv 2) (fun _ _ => rfl)) (pe_op op_pow pe_int pe_int)))
      (pss_cons (ps_set (i := 4) sc_law.nd rfl (Or.inl rfl) (pe_op op_mod (pv 2) pe_int))
      (pss_one (ps_if (pt_cmpR o_gt (pv 4) pe_int (nomark _)) (pss_one (ps_if (pt_not (pt_val (pe_call G_z_sided (hr.mono (by omega)) rfl T.m_z_sided T.F_z_sided.kp T.B_z_sided .nil pass0 (pa_cons (pv 4) (pa_cons (pv 3) pa_nil))))) (pss_one (ps_ret pe_bl)) pss_nil)) (pss_cons (ps_asg (pe_call G_z_plain_pair (hr.mono (by omega)) rfl T.m_z_plain_pair T.F_z_plain_pair.kp T.B_z_plain_pair .nil pass0 (pa_cons (pv 4) (pa_cons (pv 3) pa_nil))) (pg_tup rfl (pgs_cons (pg_name (i := 5) sc_law.nd rfl (Or.inl rfl)) (pgs_cons (pg_name (i := 6) sc_law.nd rfl (Or.inl rfl)) pgs_nil))))
      (pss_one (ps_if (PW.pt (pw_or (pt_not (pt_val (pe_call G_z_plain_right (hr.mono (by omega)) rfl T.m_z_plain_right T.F_z_plain_right.kp T.B_z_plain_right .nil pass0 (pa_cons (pv 5) (pa_cons (pv 4) (pa_cons (pv 3) pa_nil)))))) (pw_or1 (pt_not (pt_val (pe_call G_z_shows (hr.mono (by omega)) rfl T.m_z_shows T.F_z_shows.kp T.B_z_shows .nil pass0 (pa_cons (pv 5) (pa_cons (pv 6) (pa_cons pe_int pa_nil))))))))) (pss_one (ps_ret pe_bl)) pss_nil))))))))
      (pss_one (ps_ret pe_bl)))))
end
theorem all_mk {P : Program} {w : World} {K : PySem.W.Frag} {h : Heap} {mg : Str → Option Value} {fa : Addr} (X : K.In h) (G : h.Ns mainGlobals mg) (hfa : mg "law" = some (.ref fa))
    {f_Let_init f_Reckon_init f_Take_init f_Put_init f_If_init f_Either_init f_Try_init f_Throw_init f_Let_long f_Reckon_long f_Take_long f_Put_long f_Throw_long f_Wait_long f_list_long f_If_long f_Either_long f_Try_long f_Let_shown f_Reckon_shown f_Take_shown f_Put_shown f_Throw_shown f_Wait_shown f_list_shown f_bracketed f_If_shown f_Either_shown f_Try_shown f_Part_shown f_Part_long f_z_whole f_z_name f_z_slot f_z_number f_z_plain_pair f_z_plain_right f_z_shows f_z_side f_z_sided f_law c_Let c_Reckon c_Take c_Put c_If c_Either c_Try c_Throw c_Wait c_Part : Addr} {oc_Let_init kV_Let_init dc_Let_init pm_Let_init cd_Let_init ct_Let_init oc_Reckon_init kV_Reckon_init dc_Reckon_init pm_Reckon_init cd_Reckon_init ct_Reckon_init oc_Take_init kV_Take_init dc_Take_init pm_Take_init cd_Take_init ct_Take_init oc_Put_init kV_Put_init dc_Put_init pm_Put_init cd_Put_init ct_Put_init oc_If_init kV_If_init dc_If_init pm_If_init cd_If_init ct_If_init oc_Either_init kV_Either_init dc_Either_init pm_Either_init cd_Either_init ct_Either_init oc_Try_init kV_Try_init dc_Try_init pm_Try_init cd_Try_init ct_Try_init oc_Throw_init kV_Throw_init dc_Throw_init pm_Throw_init cd_Throw_init ct_Throw_init oc_Let_long kV_Let_long dc_Let_long pm_Let_long cd_Let_long ct_Let_long oc_Reckon_long kV_Reckon_long dc_Reckon_long pm_Reckon_long cd_Reckon_long ct_Reckon_long oc_Take_long kV_Take_long dc_Take_long pm_Take_long cd_Take_long ct_Take_long oc_Put_long kV_Put_long dc_Put_long pm_Put_long cd_Put_long ct_Put_long oc_Throw_long kV_Throw_long dc_Throw_long pm_Throw_long cd_Throw_long ct_Throw_long oc_Wait_long kV_Wait_long dc_Wait_long pm_Wait_long cd_Wait_long ct_Wait_long oc_list_long kV_list_long dc_list_long pm_list_long cd_list_long ct_list_long oc_If_long kV_If_long dc_If_long pm_If_long cd_If_long ct_If_long oc_Either_long kV_Either_long dc_Either_long pm_Either_long cd_Either_long ct_Either_long oc_Try_long kV_Try_long dc_Try_long pm_Try_long cd_Try_long ct_Try_long oc_Let_shown kV_Let_shown dc_Let_shown pm_Let_shown cd_Let_shown ct_Let_shown oc_Reckon_shown kV_Reckon_shown dc_Reckon_shown pm_Reckon_shown cd_Reckon_shown ct_Reckon_shown oc_Take_shown kV_Take_shown dc_Take_shown pm_Take_shown cd_Take_shown ct_Take_shown oc_Put_shown kV_Put_shown dc_Put_shown pm_Put_shown cd_Put_shown ct_Put_shown oc_Throw_shown kV_Throw_shown dc_Throw_shown pm_Throw_shown cd_Throw_shown ct_Throw_shown oc_Wait_shown kV_Wait_shown dc_Wait_shown pm_Wait_shown cd_Wait_shown ct_Wait_shown oc_list_shown kV_list_shown dc_list_shown pm_list_shown cd_list_shown ct_list_shown oc_bracketed kV_bracketed dc_bracketed pm_bracketed cd_bracketed ct_bracketed oc_If_shown kV_If_shown dc_If_shown pm_If_shown cd_If_shown ct_If_shown oc_Either_shown kV_Either_shown dc_Either_shown pm_Either_shown cd_Either_shown ct_Either_shown oc_Try_shown kV_Try_shown dc_Try_shown pm_Try_shown cd_Try_shown ct_Try_shown oc_Part_shown kV_Part_shown dc_Part_shown pm_Part_shown cd_Part_shown ct_Part_shown oc_Part_long kV_Part_long dc_Part_long pm_Part_long cd_Part_long ct_Part_long oc_z_whole kV_z_whole dc_z_whole pm_z_whole cd_z_whole ct_z_whole oc_z_name kV_z_name dc_z_name pm_z_name cd_z_name ct_z_name oc_z_slot kV_z_slot dc_z_slot pm_z_slot cd_z_slot ct_z_slot oc_z_number kV_z_number dc_z_number pm_z_number cd_z_number ct_z_number oc_z_plain_pair kV_z_plain_pair dc_z_plain_pair pm_z_plain_pair cd_z_plain_pair ct_z_plain_pair oc_z_plain_right kV_z_plain_right dc_z_plain_right pm_z_plain_right cd_z_plain_right ct_z_plain_right oc_z_shows kV_z_shows dc_z_shows pm_z_shows cd_z_shows ct_z_shows oc_z_side kV_z_side dc_z_side pm_z_side cd_z_side ct_z_side oc_z_sided kV_z_sided dc_z_sided pm_z_sided cd_z_sided ct_z_sided oc_law kV_law dc_law pm_law cd_law ct_law : Value} {od_Let_init an_Let_init od_Reckon_init an_Reckon_init od_Take_init an_Take_init od_Put_init an_Put_init od_If_init an_If_init od_Either_init an_Either_init od_Try_init an_Try_init od_Throw_init an_Throw_init od_Let_long an_Let_long od_Reckon_long an_Reckon_long od_Take_long an_Take_long od_Put_long an_Put_long od_Throw_long an_Throw_long od_Wait_long an_Wait_long od_list_long an_list_long od_If_long an_If_long od_Either_long an_Either_long od_Try_long an_Try_long od_Let_shown an_Let_shown od_Reckon_shown an_Reckon_shown od_Take_shown an_Take_shown od_Put_shown an_Put_shown od_Throw_shown an_Throw_shown od_Wait_shown an_Wait_shown od_list_shown an_list_shown od_bracketed an_bracketed od_If_shown an_If_shown od_Either_shown an_Either_shown od_Try_shown an_Try_shown od_Part_shown an_Part_shown od_Part_long an_Part_long od_z_whole an_z_whole od_z_name an_z_name od_z_slot an_z_slot od_z_number an_z_number od_z_plain_pair an_z_plain_pair od_z_plain_right an_z_plain_right od_z_shows an_z_shows od_z_side an_z_side od_z_sided an_z_sided od_law an_law : Option Addr} {sl_Let_init sl_Reckon_init sl_Take_init sl_Put_init sl_If_init sl_Either_init sl_Try_init sl_Throw_init sl_Let_long sl_Reckon_long sl_Take_long sl_Put_long sl_Throw_long sl_Wait_long sl_list_long sl_If_long sl_Either_long sl_Try_long sl_Let_shown sl_Reckon_shown sl_Take_shown sl_Put_shown sl_Throw_shown sl_Wait_shown sl_list_shown sl_bracketed sl_If_shown sl_Either_shown sl_Try_shown sl_Part_shown sl_Part_long sl_z_whole sl_z_name sl_z_slot sl_z_number sl_z_plain_pair sl_z_plain_right sl_z_shows sl_z_side sl_z_sided sl_law : Array (Option Value)}
    (a_Let_init : PySem.W.findIn K (.ref c_Let) "__init__" = some (some (.ref f_Let_init)))
    (i_Let_init : PySem.W.isFn K (.ref f_Let_init) = true)
    (l_Let_init : K.lookup f_Let_init = some ⟨oc_Let_init, od_Let_init, .func (PySem.W.fnOf "__init__" "Let.__init__" (defArgs s_Let_init) (defBody s_Let_init) (defScope s_Let_init) .none kV_Let_init dc_Let_init pm_Let_init an_Let_init cd_Let_init ct_Let_init), sl_Let_init⟩)
    (cc_Let_init : PySem.W.codeIn K cd_Let_init "Let.__init__" = true)
    (kk_Let_init : PySem.W.keepIn K (.ref f_Let_init) = true)
    (a_Reckon_init : PySem.W.findIn K (.ref c_Reckon) "__init__" = some (some (.ref f_Reckon_init)))
    (i_Reckon_init : PySem.W.isFn K (.ref f_Reckon_init) = true)
    (l_Reckon_init : K.lookup f_Reckon_init = some ⟨oc_Reckon_init, od_Reckon_init, .func (PySem.W.fnOf "__init__" "Reckon.__init__" (defArgs s_Reckon_init) (defBody s_Reckon_init) (defScope s_Reckon_init) .none kV_Reckon_init dc_Reckon_init pm_Reckon_init an_Reckon_init cd_Reckon_init ct_Reckon_init), sl_Reckon_init⟩)
    (cc_Reckon_init : PySem.W.codeIn K cd_Reckon_init "Reckon.__init__" = true)
    (kk_Reckon_init : PySem.W.keepIn K (.ref f_Reckon_init) = true)
    (a_Take_init : PySem.W.findIn K (.ref c_Take) "__init__" = some (some (.ref f_Take_init)))
    (i_Take_init : PySem.W.isFn K (.ref f_Take_init) = true)
    (l_Take_init : K.lookup f_Take_init = some ⟨oc_Take_init, od_Take_init, .func (PySem.W.fnOf "__init__" "Take.__init__" (defArgs s_Take_init) (defBody s_Take_init) (defScope s_Take_init) .none kV_Take_init dc_Take_init pm_Take_init an_Take_init cd_Take_init ct_Take_init), sl_Take_init⟩)
    (cc_Take_init : PySem.W.codeIn K cd_Take_init "Take.__init__" = true)
    (kk_Take_init : PySem.W.keepIn K (.ref f_Take_init) = true)
    (a_Put_init : PySem.W.findIn K (.ref c_Put) "__init__" = some (some (.ref f_Put_init)))
    (i_Put_init : PySem.W.isFn K (.ref f_Put_init) = true)
    (l_Put_init : K.lookup f_Put_init = some ⟨oc_Put_init, od_Put_init, .func (PySem.W.fnOf "__init__" "Put.__init__" (defArgs s_Put_init) (defBody s_Put_init) (defScope s_Put_init) .none kV_Put_init dc_Put_init pm_Put_init an_Put_init cd_Put_init ct_Put_init), sl_Put_init⟩)
    (cc_Put_init : PySem.W.codeIn K cd_Put_init "Put.__init__" = true)
    (kk_Put_init : PySem.W.keepIn K (.ref f_Put_init) = true)
    (a_If_init : PySem.W.findIn K (.ref c_If) "__init__" = some (some (.ref f_If_init)))
    (i_If_init : PySem.W.isFn K (.ref f_If_init) = true)
    (l_If_init : K.lookup f_If_init = some ⟨oc_If_init, od_If_init, .func (PySem.W.fnOf "__init__" "If.__init__" (defArgs s_If_init) (defBody s_If_init) (defScope s_If_init) .none kV_If_init dc_If_init pm_If_init an_If_init cd_If_init ct_If_init), sl_If_init⟩)
    (cc_If_init : PySem.W.codeIn K cd_If_init "If.__init__" = true)
    (kk_If_init : PySem.W.keepIn K (.ref f_If_init) = true)
    (a_Either_init : PySem.W.findIn K (.ref c_Either) "__init__" = some (some (.ref f_Either_init)))
    (i_Either_init : PySem.W.isFn K (.ref f_Either_init) = true)
    (l_Either_init : K.lookup f_Either_init = some ⟨oc_Either_init, od_Either_init, .func (PySem.W.fnOf "__init__" "Either.__init__" (defArgs s_Either_init) (defBody s_Either_init) (defScope s_Either_init) .none kV_Either_init dc_Either_init pm_Either_init an_Either_init cd_Either_init ct_Either_init), sl_Either_init⟩)
    (cc_Either_init : PySem.W.codeIn K cd_Either_init "Either.__init__" = true)
    (kk_Either_init : PySem.W.keepIn K (.ref f_Either_init) = true)
    (a_Try_init : PySem.W.findIn K (.ref c_Try) "__init__" = some (some (.ref f_Try_init)))
    (i_Try_init : PySem.W.isFn K (.ref f_Try_init) = true)
    (l_Try_init : K.lookup f_Try_init = some ⟨oc_Try_init, od_Try_init, .func (PySem.W.fnOf "__init__" "Try.__init__" (defArgs s_Try_init) (defBody s_Try_init) (defScope s_Try_init) .none kV_Try_init dc_Try_init pm_Try_init an_Try_init cd_Try_init ct_Try_init), sl_Try_init⟩)
    (cc_Try_init : PySem.W.codeIn K cd_Try_init "Try.__init__" = true)
    (kk_Try_init : PySem.W.keepIn K (.ref f_Try_init) = true)
    (a_Throw_init : PySem.W.findIn K (.ref c_Throw) "__init__" = some (some (.ref f_Throw_init)))
    (i_Throw_init : PySem.W.isFn K (.ref f_Throw_init) = true)
    (l_Throw_init : K.lookup f_Throw_init = some ⟨oc_Throw_init, od_Throw_init, .func (PySem.W.fnOf "__init__" "Throw.__init__" (defArgs s_Throw_init) (defBody s_Throw_init) (defScope s_Throw_init) .none kV_Throw_init dc_Throw_init pm_Throw_init an_Throw_init cd_Throw_init ct_Throw_init), sl_Throw_init⟩)
    (cc_Throw_init : PySem.W.codeIn K cd_Throw_init "Throw.__init__" = true)
    (kk_Throw_init : PySem.W.keepIn K (.ref f_Throw_init) = true)
    (a_Let_long : PySem.W.findIn K (.ref c_Let) "long" = some (some (.ref f_Let_long)))
    (i_Let_long : PySem.W.isFn K (.ref f_Let_long) = true)
    (l_Let_long : K.lookup f_Let_long = some ⟨oc_Let_long, od_Let_long, .func (PySem.W.fnOf "long" "Let.long" (defArgs s_Let_long) (defBody s_Let_long) (defScope s_Let_long) .none kV_Let_long dc_Let_long pm_Let_long an_Let_long cd_Let_long ct_Let_long), sl_Let_long⟩)
    (cc_Let_long : PySem.W.codeIn K cd_Let_long "Let.long" = true)
    (kk_Let_long : PySem.W.keepIn K (.ref f_Let_long) = true)
    (a_Reckon_long : PySem.W.findIn K (.ref c_Reckon) "long" = some (some (.ref f_Reckon_long)))
    (i_Reckon_long : PySem.W.isFn K (.ref f_Reckon_long) = true)
    (l_Reckon_long : K.lookup f_Reckon_long = some ⟨oc_Reckon_long, od_Reckon_long, .func (PySem.W.fnOf "long" "Reckon.long" (defArgs s_Reckon_long) (defBody s_Reckon_long) (defScope s_Reckon_long) .none kV_Reckon_long dc_Reckon_long pm_Reckon_long an_Reckon_long cd_Reckon_long ct_Reckon_long), sl_Reckon_long⟩)
    (cc_Reckon_long : PySem.W.codeIn K cd_Reckon_long "Reckon.long" = true)
    (kk_Reckon_long : PySem.W.keepIn K (.ref f_Reckon_long) = true)
    (a_Take_long : PySem.W.findIn K (.ref c_Take) "long" = some (some (.ref f_Take_long)))
    (i_Take_long : PySem.W.isFn K (.ref f_Take_long) = true)
    (l_Take_long : K.lookup f_Take_long = some ⟨oc_Take_long, od_Take_long, .func (PySem.W.fnOf "long" "Take.long" (defArgs s_Take_long) (defBody s_Take_long) (defScope s_Take_long) .none kV_Take_long dc_Take_long pm_Take_long an_Take_long cd_Take_long ct_Take_long), sl_Take_long⟩)
    (cc_Take_long : PySem.W.codeIn K cd_Take_long "Take.long" = true)
    (kk_Take_long : PySem.W.keepIn K (.ref f_Take_long) = true)
    (a_Put_long : PySem.W.findIn K (.ref c_Put) "long" = some (some (.ref f_Put_long)))
    (i_Put_long : PySem.W.isFn K (.ref f_Put_long) = true)
    (l_Put_long : K.lookup f_Put_long = some ⟨oc_Put_long, od_Put_long, .func (PySem.W.fnOf "long" "Put.long" (defArgs s_Put_long) (defBody s_Put_long) (defScope s_Put_long) .none kV_Put_long dc_Put_long pm_Put_long an_Put_long cd_Put_long ct_Put_long), sl_Put_long⟩)
    (cc_Put_long : PySem.W.codeIn K cd_Put_long "Put.long" = true)
    (kk_Put_long : PySem.W.keepIn K (.ref f_Put_long) = true)
    (a_Throw_long : PySem.W.findIn K (.ref c_Throw) "long" = some (some (.ref f_Throw_long)))
    (i_Throw_long : PySem.W.isFn K (.ref f_Throw_long) = true)
    (l_Throw_long : K.lookup f_Throw_long = some ⟨oc_Throw_long, od_Throw_long, .func (PySem.W.fnOf "long" "Throw.long" (defArgs s_Throw_long) (defBody s_Throw_long) (defScope s_Throw_long) .none kV_Throw_long dc_Throw_long pm_Throw_long an_Throw_long cd_Throw_long ct_Throw_long), sl_Throw_long⟩)
    (cc_Throw_long : PySem.W.codeIn K cd_Throw_long "Throw.long" = true)
    (kk_Throw_long : PySem.W.keepIn K (.ref f_Throw_long) = true)
    (a_Wait_long : PySem.W.findIn K (.ref c_Wait) "long" = some (some (.ref f_Wait_long)))
    (i_Wait_long : PySem.W.isFn K (.ref f_Wait_long) = true)
    (l_Wait_long : K.lookup f_Wait_long = some ⟨oc_Wait_long, od_Wait_long, .func (PySem.W.fnOf "long" "Wait.long" (defArgs s_Wait_long) (defBody s_Wait_long) (defScope s_Wait_long) .none kV_Wait_long dc_Wait_long pm_Wait_long an_Wait_long cd_Wait_long ct_Wait_long), sl_Wait_long⟩)
    (cc_Wait_long : PySem.W.codeIn K cd_Wait_long "Wait.long" = true)
    (kk_Wait_long : PySem.W.keepIn K (.ref f_Wait_long) = true)
    (a_list_long : PySem.W.nsIn K mainGlobals "list_long" = some (some (.ref f_list_long)))
    (l_list_long : K.lookup f_list_long = some ⟨oc_list_long, od_list_long, .func (PySem.W.fnOf "list_long" "list_long" (defArgs s_list_long) (defBody s_list_long) (defScope s_list_long) .none kV_list_long dc_list_long pm_list_long an_list_long cd_list_long ct_list_long), sl_list_long⟩)
    (cc_list_long : PySem.W.codeIn K cd_list_long "list_long" = true)
    (kk_list_long : PySem.W.keepIn K (.ref f_list_long) = true)
    (a_If_long : PySem.W.findIn K (.ref c_If) "long" = some (some (.ref f_If_long)))
    (i_If_long : PySem.W.isFn K (.ref f_If_long) = true)
    (l_If_long : K.lookup f_If_long = some ⟨oc_If_long, od_If_long, .func (PySem.W.fnOf "long" "If.long" (defArgs s_If_long) (defBody s_If_long) (defScope s_If_long) .none kV_If_long dc_If_long pm_If_long an_If_long cd_If_long ct_If_long), sl_If_long⟩)
    (cc_If_long : PySem.W.codeIn K cd_If_long "If.long" = true)
    (kk_If_long : PySem.W.keepIn K (.ref f_If_long) = true)
    (a_Either_long : PySem.W.findIn K (.ref c_Either) "long" = some (some (.ref f_Either_long)))
    (i_Either_long : PySem.W.isFn K (.ref f_Either_long) = true)
    (l_Either_long : K.lookup f_Either_long = some ⟨oc_Either_long, od_Either_long, .func (PySem.W.fnOf "long" "Either.long" (defArgs s_Either_long) (defBody s_Either_long) (defScope s_Either_long) .none kV_Either_long dc_Either_long pm_Either_long an_Either_long cd_Either_long ct_Either_long), sl_Either_long⟩)
    (cc_Either_long : PySem.W.codeIn K cd_Either_long "Either.long" = true)
    (kk_Either_long : PySem.W.keepIn K (.ref f_Either_long) = true)
    (a_Try_long : PySem.W.findIn K (.ref c_Try) "long" = some (some (.ref f_Try_long)))
    (i_Try_long : PySem.W.isFn K (.ref f_Try_long) = true)
    (l_Try_long : K.lookup f_Try_long = some ⟨oc_Try_long, od_Try_long, .func (PySem.W.fnOf "long" "Try.long" (defArgs s_Try_long) (defBody s_Try_long) (defScope s_Try_long) .none kV_Try_long dc_Try_long pm_Try_long an_Try_long cd_Try_long ct_Try_long), sl_Try_long⟩)
    (cc_Try_long : PySem.W.codeIn K cd_Try_long "Try.long" = true)
    (kk_Try_long : PySem.W.keepIn K (.ref f_Try_long) = true)
    (a_Let_shown : PySem.W.findIn K (.ref c_Let) "shown" = some (some (.ref f_Let_shown)))
    (i_Let_shown : PySem.W.isFn K (.ref f_Let_shown) = true)
    (l_Let_shown : K.lookup f_Let_shown = some ⟨oc_Let_shown, od_Let_shown, .func (PySem.W.fnOf "shown" "Let.shown" (defArgs s_Let_shown) (defBody s_Let_shown) (defScope s_Let_shown) .none kV_Let_shown dc_Let_shown pm_Let_shown an_Let_shown cd_Let_shown ct_Let_shown), sl_Let_shown⟩)
    (cc_Let_shown : PySem.W.codeIn K cd_Let_shown "Let.shown" = true)
    (kk_Let_shown : PySem.W.keepIn K (.ref f_Let_shown) = true)
    (a_Reckon_shown : PySem.W.findIn K (.ref c_Reckon) "shown" = some (some (.ref f_Reckon_shown)))
    (i_Reckon_shown : PySem.W.isFn K (.ref f_Reckon_shown) = true)
    (l_Reckon_shown : K.lookup f_Reckon_shown = some ⟨oc_Reckon_shown, od_Reckon_shown, .func (PySem.W.fnOf "shown" "Reckon.shown" (defArgs s_Reckon_shown) (defBody s_Reckon_shown) (defScope s_Reckon_shown) .none kV_Reckon_shown dc_Reckon_shown pm_Reckon_shown an_Reckon_shown cd_Reckon_shown ct_Reckon_shown), sl_Reckon_shown⟩)
    (cc_Reckon_shown : PySem.W.codeIn K cd_Reckon_shown "Reckon.shown" = true)
    (kk_Reckon_shown : PySem.W.keepIn K (.ref f_Reckon_shown) = true)
    (a_Take_shown : PySem.W.findIn K (.ref c_Take) "shown" = some (some (.ref f_Take_shown)))
    (i_Take_shown : PySem.W.isFn K (.ref f_Take_shown) = true)
    (l_Take_shown : K.lookup f_Take_shown = some ⟨oc_Take_shown, od_Take_shown, .func (PySem.W.fnOf "shown" "Take.shown" (defArgs s_Take_shown) (defBody s_Take_shown) (defScope s_Take_shown) .none kV_Take_shown dc_Take_shown pm_Take_shown an_Take_shown cd_Take_shown ct_Take_shown), sl_Take_shown⟩)
    (cc_Take_shown : PySem.W.codeIn K cd_Take_shown "Take.shown" = true)
    (kk_Take_shown : PySem.W.keepIn K (.ref f_Take_shown) = true)
    (a_Put_shown : PySem.W.findIn K (.ref c_Put) "shown" = some (some (.ref f_Put_shown)))
    (i_Put_shown : PySem.W.isFn K (.ref f_Put_shown) = true)
    (l_Put_shown : K.lookup f_Put_shown = some ⟨oc_Put_shown, od_Put_shown, .func (PySem.W.fnOf "shown" "Put.shown" (defArgs s_Put_shown) (defBody s_Put_shown) (defScope s_Put_shown) .none kV_Put_shown dc_Put_shown pm_Put_shown an_Put_shown cd_Put_shown ct_Put_shown), sl_Put_shown⟩)
    (cc_Put_shown : PySem.W.codeIn K cd_Put_shown "Put.shown" = true)
    (kk_Put_shown : PySem.W.keepIn K (.ref f_Put_shown) = true)
    (a_Throw_shown : PySem.W.findIn K (.ref c_Throw) "shown" = some (some (.ref f_Throw_shown)))
    (i_Throw_shown : PySem.W.isFn K (.ref f_Throw_shown) = true)
    (l_Throw_shown : K.lookup f_Throw_shown = some ⟨oc_Throw_shown, od_Throw_shown, .func (PySem.W.fnOf "shown" "Throw.shown" (defArgs s_Throw_shown) (defBody s_Throw_shown) (defScope s_Throw_shown) .none kV_Throw_shown dc_Throw_shown pm_Throw_shown an_Throw_shown cd_Throw_shown ct_Throw_shown), sl_Throw_shown⟩)
    (cc_Throw_shown : PySem.W.codeIn K cd_Throw_shown "Throw.shown" = true)
    (kk_Throw_shown : PySem.W.keepIn K (.ref f_Throw_shown) = true)
    (a_Wait_shown : PySem.W.findIn K (.ref c_Wait) "shown" = some (some (.ref f_Wait_shown)))
    (i_Wait_shown : PySem.W.isFn K (.ref f_Wait_shown) = true)
    (l_Wait_shown : K.lookup f_Wait_shown = some ⟨oc_Wait_shown, od_Wait_shown, .func (PySem.W.fnOf "shown" "Wait.shown" (defArgs s_Wait_shown) (defBody s_Wait_shown) (defScope s_Wait_shown) .none kV_Wait_shown dc_Wait_shown pm_Wait_shown an_Wait_shown cd_Wait_shown ct_Wait_shown), sl_Wait_shown⟩)
    (cc_Wait_shown : PySem.W.codeIn K cd_Wait_shown "Wait.shown" = true)
    (kk_Wait_shown : PySem.W.keepIn K (.ref f_Wait_shown) = true)
    (a_list_shown : PySem.W.nsIn K mainGlobals "list_shown" = some (some (.ref f_list_shown)))
    (l_list_shown : K.lookup f_list_shown = some ⟨oc_list_shown, od_list_shown, .func (PySem.W.fnOf "list_shown" "list_shown" (defArgs s_list_shown) (defBody s_list_shown) (defScope s_list_shown) .none kV_list_shown dc_list_shown pm_list_shown an_list_shown cd_list_shown ct_list_shown), sl_list_shown⟩)
    (cc_list_shown : PySem.W.codeIn K cd_list_shown "list_shown" = true)
    (kk_list_shown : PySem.W.keepIn K (.ref f_list_shown) = true)
    (a_bracketed : PySem.W.nsIn K mainGlobals "bracketed" = some (some (.ref f_bracketed)))
    (l_bracketed : K.lookup f_bracketed = some ⟨oc_bracketed, od_bracketed, .func (PySem.W.fnOf "bracketed" "bracketed" (defArgs s_bracketed) (defBody s_bracketed) (defScope s_bracketed) .none kV_bracketed dc_bracketed pm_bracketed an_bracketed cd_bracketed ct_bracketed), sl_bracketed⟩)
    (cc_bracketed : PySem.W.codeIn K cd_bracketed "bracketed" = true)
    (kk_bracketed : PySem.W.keepIn K (.ref f_bracketed) = true)
    (a_If_shown : PySem.W.findIn K (.ref c_If) "shown" = some (some (.ref f_If_shown)))
    (i_If_shown : PySem.W.isFn K (.ref f_If_shown) = true)
    (l_If_shown : K.lookup f_If_shown = some ⟨oc_If_shown, od_If_shown, .func (PySem.W.fnOf "shown" "If.shown" (defArgs s_If_shown) (defBody s_If_shown) (defScope s_If_shown) .none kV_If_shown dc_If_shown pm_If_shown an_If_shown cd_If_shown ct_If_shown), sl_If_shown⟩)
    (cc_If_shown : PySem.W.codeIn K cd_If_shown "If.shown" = true)
    (kk_If_shown : PySem.W.keepIn K (.ref f_If_shown) = true)
    (a_Either_shown : PySem.W.findIn K (.ref c_Either) "shown" = some (some (.ref f_Either_shown)))
    (i_Either_shown : PySem.W.isFn K (.ref f_Either_shown) = true)
    (l_Either_shown : K.lookup f_Either_shown = some ⟨oc_Either_shown, od_Either_shown, .func (PySem.W.fnOf "shown" "Either.shown" (defArgs s_Either_shown) (defBody s_Either_shown) (defScope s_Either_shown) .none kV_Either_shown dc_Either_shown pm_Either_shown an_Either_shown cd_Either_shown ct_Either_shown), sl_Either_shown⟩)
    (cc_Either_shown : PySem.W.codeIn K cd_Either_shown "Either.shown" = true)
    (kk_Either_shown : PySem.W.keepIn K (.ref f_Either_shown) = true)
    (a_Try_shown : PySem.W.findIn K (.ref c_Try) "shown" = some (some (.ref f_Try_shown)))
    (i_Try_shown : PySem.W.isFn K (.ref f_Try_shown) = true)
    (l_Try_shown : K.lookup f_Try_shown = some ⟨oc_Try_shown, od_Try_shown, .func (PySem.W.fnOf "shown" "Try.shown" (defArgs s_Try_shown) (defBody s_Try_shown) (defScope s_Try_shown) .none kV_Try_shown dc_Try_shown pm_Try_shown an_Try_shown cd_Try_shown ct_Try_shown), sl_Try_shown⟩)
    (cc_Try_shown : PySem.W.codeIn K cd_Try_shown "Try.shown" = true)
    (kk_Try_shown : PySem.W.keepIn K (.ref f_Try_shown) = true)
    (a_Part_shown : PySem.W.findIn K (.ref c_Part) "shown" = some (some (.ref f_Part_shown)))
    (i_Part_shown : PySem.W.isFn K (.ref f_Part_shown) = true)
    (l_Part_shown : K.lookup f_Part_shown = some ⟨oc_Part_shown, od_Part_shown, .func (PySem.W.fnOf "shown" "Part.shown" (defArgs s_Part_shown) (defBody s_Part_shown) (defScope s_Part_shown) .none kV_Part_shown dc_Part_shown pm_Part_shown an_Part_shown cd_Part_shown ct_Part_shown), sl_Part_shown⟩)
    (cc_Part_shown : PySem.W.codeIn K cd_Part_shown "Part.shown" = true)
    (kk_Part_shown : PySem.W.keepIn K (.ref f_Part_shown) = true)
    (a_Part_long : PySem.W.findIn K (.ref c_Part) "long" = some (some (.ref f_Part_long)))
    (i_Part_long : PySem.W.isFn K (.ref f_Part_long) = true)
    (l_Part_long : K.lookup f_Part_long = some ⟨oc_Part_long, od_Part_long, .func (PySem.W.fnOf "long" "Part.long" (defArgs s_Part_long) (defBody s_Part_long) (defScope s_Part_long) .none kV_Part_long dc_Part_long pm_Part_long an_Part_long cd_Part_long ct_Part_long), sl_Part_long⟩)
    (cc_Part_long : PySem.W.codeIn K cd_Part_long "Part.long" = true)
    (kk_Part_long : PySem.W.keepIn K (.ref f_Part_long) = true)
    (a_z_whole : PySem.W.nsIn K mainGlobals "_law_whole" = some (some (.ref f_z_whole)))
    (l_z_whole : K.lookup f_z_whole = some ⟨oc_z_whole, od_z_whole, .func (PySem.W.fnOf "_law_whole" "_law_whole" (defArgs s_z_whole) (defBody s_z_whole) (defScope s_z_whole) .none kV_z_whole dc_z_whole pm_z_whole an_z_whole cd_z_whole ct_z_whole), sl_z_whole⟩)
    (cc_z_whole : PySem.W.codeIn K cd_z_whole "_law_whole" = true)
    (kk_z_whole : PySem.W.keepIn K (.ref f_z_whole) = true)
    (a_z_name : PySem.W.nsIn K mainGlobals "_law_name" = some (some (.ref f_z_name)))
    (l_z_name : K.lookup f_z_name = some ⟨oc_z_name, od_z_name, .func (PySem.W.fnOf "_law_name" "_law_name" (defArgs s_z_name) (defBody s_z_name) (defScope s_z_name) .none kV_z_name dc_z_name pm_z_name an_z_name cd_z_name ct_z_name), sl_z_name⟩)
    (cc_z_name : PySem.W.codeIn K cd_z_name "_law_name" = true)
    (kk_z_name : PySem.W.keepIn K (.ref f_z_name) = true)
    (a_z_slot : PySem.W.nsIn K mainGlobals "_law_slot" = some (some (.ref f_z_slot)))
    (l_z_slot : K.lookup f_z_slot = some ⟨oc_z_slot, od_z_slot, .func (PySem.W.fnOf "_law_slot" "_law_slot" (defArgs s_z_slot) (defBody s_z_slot) (defScope s_z_slot) .none kV_z_slot dc_z_slot pm_z_slot an_z_slot cd_z_slot ct_z_slot), sl_z_slot⟩)
    (cc_z_slot : PySem.W.codeIn K cd_z_slot "_law_slot" = true)
    (kk_z_slot : PySem.W.keepIn K (.ref f_z_slot) = true)
    (a_z_number : PySem.W.nsIn K mainGlobals "_law_number" = some (some (.ref f_z_number)))
    (l_z_number : K.lookup f_z_number = some ⟨oc_z_number, od_z_number, .func (PySem.W.fnOf "_law_number" "_law_number" (defArgs s_z_number) (defBody s_z_number) (defScope s_z_number) .none kV_z_number dc_z_number pm_z_number an_z_number cd_z_number ct_z_number), sl_z_number⟩)
    (cc_z_number : PySem.W.codeIn K cd_z_number "_law_number" = true)
    (kk_z_number : PySem.W.keepIn K (.ref f_z_number) = true)
    (a_z_plain_pair : PySem.W.nsIn K mainGlobals "_law_plain_pair" = some (some (.ref f_z_plain_pair)))
    (l_z_plain_pair : K.lookup f_z_plain_pair = some ⟨oc_z_plain_pair, od_z_plain_pair, .func (PySem.W.fnOf "_law_plain_pair" "_law_plain_pair" (defArgs s_z_plain_pair) (defBody s_z_plain_pair) (defScope s_z_plain_pair) .none kV_z_plain_pair dc_z_plain_pair pm_z_plain_pair an_z_plain_pair cd_z_plain_pair ct_z_plain_pair), sl_z_plain_pair⟩)
    (cc_z_plain_pair : PySem.W.codeIn K cd_z_plain_pair "_law_plain_pair" = true)
    (kk_z_plain_pair : PySem.W.keepIn K (.ref f_z_plain_pair) = true)
    (a_z_plain_right : PySem.W.nsIn K mainGlobals "_law_plain_right" = some (some (.ref f_z_plain_right)))
    (l_z_plain_right : K.lookup f_z_plain_right = some ⟨oc_z_plain_right, od_z_plain_right, .func (PySem.W.fnOf "_law_plain_right" "_law_plain_right" (defArgs s_z_plain_right) (defBody s_z_plain_right) (defScope s_z_plain_right) .none kV_z_plain_right dc_z_plain_right pm_z_plain_right an_z_plain_right cd_z_plain_right ct_z_plain_right), sl_z_plain_right⟩)
    (cc_z_plain_right : PySem.W.codeIn K cd_z_plain_right "_law_plain_right" = true)
    (kk_z_plain_right : PySem.W.keepIn K (.ref f_z_plain_right) = true)
    (a_z_shows : PySem.W.nsIn K mainGlobals "_law_shows" = some (some (.ref f_z_shows)))
    (l_z_shows : K.lookup f_z_shows = some ⟨oc_z_shows, od_z_shows, .func (PySem.W.fnOf "_law_shows" "_law_shows" (defArgs s_z_shows) (defBody s_z_shows) (defScope s_z_shows) .none kV_z_shows dc_z_shows pm_z_shows an_z_shows cd_z_shows ct_z_shows), sl_z_shows⟩)
    (cc_z_shows : PySem.W.codeIn K cd_z_shows "_law_shows" = true)
    (kk_z_shows : PySem.W.keepIn K (.ref f_z_shows) = true)
    (a_z_side : PySem.W.nsIn K mainGlobals "_law_side" = some (some (.ref f_z_side)))
    (l_z_side : K.lookup f_z_side = some ⟨oc_z_side, od_z_side, .func (PySem.W.fnOf "_law_side" "_law_side" (defArgs s_z_side) (defBody s_z_side) (defScope s_z_side) .none kV_z_side dc_z_side pm_z_side an_z_side cd_z_side ct_z_side), sl_z_side⟩)
    (cc_z_side : PySem.W.codeIn K cd_z_side "_law_side" = true)
    (kk_z_side : PySem.W.keepIn K (.ref f_z_side) = true)
    (a_z_sided : PySem.W.nsIn K mainGlobals "_law_sided" = some (some (.ref f_z_sided)))
    (l_z_sided : K.lookup f_z_sided = some ⟨oc_z_sided, od_z_sided, .func (PySem.W.fnOf "_law_sided" "_law_sided" (defArgs s_z_sided) (defBody s_z_sided) (defScope s_z_sided) .none kV_z_sided dc_z_sided pm_z_sided an_z_sided cd_z_sided ct_z_sided), sl_z_sided⟩)
    (cc_z_sided : PySem.W.codeIn K cd_z_sided "_law_sided" = true)
    (kk_z_sided : PySem.W.keepIn K (.ref f_z_sided) = true)
    (a_law : PySem.W.nsIn K mainGlobals "law" = some (some (.ref f_law)))
    (l_law : K.lookup f_law = some ⟨oc_law, od_law, .func (PySem.W.fnOf "law" "law" (defArgs s_law) (defBody s_law) (defScope s_law) .none kV_law dc_law pm_law an_law cd_law ct_law), sl_law⟩)
    (cc_law : PySem.W.codeIn K cd_law "law" = true)
    (kk_law : PySem.W.keepIn K (.ref f_law) = true)
    (b_bool : PySem.W.nsIn K mainGlobals "bool" = some none)
    (b_int : PySem.W.nsIn K mainGlobals "int" = some none)
    (b_isinstance : PySem.W.nsIn K mainGlobals "isinstance" = some none)
    (b_len : PySem.W.nsIn K mainGlobals "len" = some none)
    (b_list : PySem.W.nsIn K mainGlobals "list" = some none)
    (b_range : PySem.W.nsIn K mainGlobals "range" = some none)
    (b_str : PySem.W.nsIn K mainGlobals "str" = some none)
    (b_sum : PySem.W.nsIn K mainGlobals "sum" = some none)
    (g_Let : PySem.W.nsIn K mainGlobals "Let" = some (some (.ref c_Let)))
    (pg_Let : PySem.W.plainGet K c_Let Str.empty = true)
    (hd_Let : PySem.W.hasDictIn K c_Let = true)
    (po_Let : PySem.W.plainOver K c_Let = true)
    (sa_Let : PySem.W.findIn K (.ref c_Let) "__setattr__" = some (some (.builtin "object.__setattr__")))
    (mk_Let : PySem.W.makesIn K c_Let = true)
    (kc_Let : PySem.W.keepIn K (.ref c_Let) = true)
    (g_Reckon : PySem.W.nsIn K mainGlobals "Reckon" = some (some (.ref c_Reckon)))
    (pg_Reckon : PySem.W.plainGet K c_Reckon Str.empty = true)
    (hd_Reckon : PySem.W.hasDictIn K c_Reckon = true)
    (po_Reckon : PySem.W.plainOver K c_Reckon = true)
    (sa_Reckon : PySem.W.findIn K (.ref c_Reckon) "__setattr__" = some (some (.builtin "object.__setattr__")))
    (mk_Reckon : PySem.W.makesIn K c_Reckon = true)
    (kc_Reckon : PySem.W.keepIn K (.ref c_Reckon) = true)
    (g_Take : PySem.W.nsIn K mainGlobals "Take" = some (some (.ref c_Take)))
    (pg_Take : PySem.W.plainGet K c_Take Str.empty = true)
    (hd_Take : PySem.W.hasDictIn K c_Take = true)
    (po_Take : PySem.W.plainOver K c_Take = true)
    (sa_Take : PySem.W.findIn K (.ref c_Take) "__setattr__" = some (some (.builtin "object.__setattr__")))
    (mk_Take : PySem.W.makesIn K c_Take = true)
    (kc_Take : PySem.W.keepIn K (.ref c_Take) = true)
    (g_Put : PySem.W.nsIn K mainGlobals "Put" = some (some (.ref c_Put)))
    (pg_Put : PySem.W.plainGet K c_Put Str.empty = true)
    (hd_Put : PySem.W.hasDictIn K c_Put = true)
    (po_Put : PySem.W.plainOver K c_Put = true)
    (sa_Put : PySem.W.findIn K (.ref c_Put) "__setattr__" = some (some (.builtin "object.__setattr__")))
    (mk_Put : PySem.W.makesIn K c_Put = true)
    (kc_Put : PySem.W.keepIn K (.ref c_Put) = true)
    (g_If : PySem.W.nsIn K mainGlobals "If" = some (some (.ref c_If)))
    (pg_If : PySem.W.plainGet K c_If Str.empty = true)
    (hd_If : PySem.W.hasDictIn K c_If = true)
    (po_If : PySem.W.plainOver K c_If = true)
    (sa_If : PySem.W.findIn K (.ref c_If) "__setattr__" = some (some (.builtin "object.__setattr__")))
    (mk_If : PySem.W.makesIn K c_If = true)
    (kc_If : PySem.W.keepIn K (.ref c_If) = true)
    (g_Either : PySem.W.nsIn K mainGlobals "Either" = some (some (.ref c_Either)))
    (pg_Either : PySem.W.plainGet K c_Either Str.empty = true)
    (hd_Either : PySem.W.hasDictIn K c_Either = true)
    (po_Either : PySem.W.plainOver K c_Either = true)
    (sa_Either : PySem.W.findIn K (.ref c_Either) "__setattr__" = some (some (.builtin "object.__setattr__")))
    (mk_Either : PySem.W.makesIn K c_Either = true)
    (kc_Either : PySem.W.keepIn K (.ref c_Either) = true)
    (g_Try : PySem.W.nsIn K mainGlobals "Try" = some (some (.ref c_Try)))
    (pg_Try : PySem.W.plainGet K c_Try Str.empty = true)
    (hd_Try : PySem.W.hasDictIn K c_Try = true)
    (po_Try : PySem.W.plainOver K c_Try = true)
    (sa_Try : PySem.W.findIn K (.ref c_Try) "__setattr__" = some (some (.builtin "object.__setattr__")))
    (mk_Try : PySem.W.makesIn K c_Try = true)
    (kc_Try : PySem.W.keepIn K (.ref c_Try) = true)
    (g_Throw : PySem.W.nsIn K mainGlobals "Throw" = some (some (.ref c_Throw)))
    (pg_Throw : PySem.W.plainGet K c_Throw Str.empty = true)
    (hd_Throw : PySem.W.hasDictIn K c_Throw = true)
    (po_Throw : PySem.W.plainOver K c_Throw = true)
    (sa_Throw : PySem.W.findIn K (.ref c_Throw) "__setattr__" = some (some (.builtin "object.__setattr__")))
    (mk_Throw : PySem.W.makesIn K c_Throw = true)
    (kc_Throw : PySem.W.keepIn K (.ref c_Throw) = true)
    (g_Wait : PySem.W.nsIn K mainGlobals "Wait" = some (some (.ref c_Wait)))
    (pg_Wait : PySem.W.plainGet K c_Wait Str.empty = true)
    (hd_Wait : PySem.W.hasDictIn K c_Wait = true)
    (po_Wait : PySem.W.plainOver K c_Wait = true)
    (sa_Wait : PySem.W.findIn K (.ref c_Wait) "__setattr__" = some (some (.builtin "object.__setattr__")))
    (mk_Wait : PySem.W.makesIn K c_Wait = true)
    (kc_Wait : PySem.W.keepIn K (.ref c_Wait) = true)
    (in_Wait : PySem.W.findIn K (.ref c_Wait) "__init__" = some (some (.builtin "object.__init__")))
    (g_Part : PySem.W.nsIn K mainGlobals "Part" = some (some (.ref c_Part)))
    (pg_Part : PySem.W.plainGet K c_Part Str.empty = true)
    (hd_Part : PySem.W.hasDictIn K c_Part = true)
    (po_Part : PySem.W.plainOver K c_Part = true)
    (sa_Part : PySem.W.findIn K (.ref c_Part) "__setattr__" = some (some (.builtin "object.__setattr__")))
    (mk_Part : PySem.W.makesIn K c_Part = true)
    (kc_Part : PySem.W.keepIn K (.ref c_Part) = true)
    (in_Part : PySem.W.findIn K (.ref c_Part) "__init__" = some (some (.builtin "object.__init__")))
    (kgs : PySem.W.specialIn K (.builtin "object.__class__") "__get__" = some (some (.builtin "getset_descriptor.__get__")))
    (ktk : PySem.W.takesIn K (.builtin "object.__class__") = some true)
    (kcc_Let : PySem.W.findIn K (.ref c_Let) "__class__" = some (some (.builtin "object.__class__")))
    (kmo_Let : PySem.W.mroIn K c_Let (.type "object") = some true)
    (nslot_Let : PySem.W.findIn K (.ref c_Let) "slot" = some none)
    (nnumber_Let : PySem.W.findIn K (.ref c_Let) "number" = some none)
    (kcc_Part : PySem.W.findIn K (.ref c_Part) "__class__" = some (some (.builtin "object.__class__")))
    (kmo_Part : PySem.W.mroIn K c_Part (.type "object") = some true)
    (kit_Part_Part : PySem.W.kitOne K (.ref c_Part) (.ref c_Part) = some true)
    (kit_Let_Part : PySem.W.kitOne K (.ref c_Let) (.ref c_Part) = some true)
    (kit_Let_Let : PySem.W.kitOne K (.ref c_Let) (.ref c_Let) = some true)
    (kit_Let_Reckon : PySem.W.kitOne K (.ref c_Let) (.ref c_Reckon) = some false)
    (kit_Let_Take : PySem.W.kitOne K (.ref c_Let) (.ref c_Take) = some false)
    (kit_Let_Put : PySem.W.kitOne K (.ref c_Let) (.ref c_Put) = some false)
    (kit_Let_If : PySem.W.kitOne K (.ref c_Let) (.ref c_If) = some false)
    (kit_Let_Either : PySem.W.kitOne K (.ref c_Let) (.ref c_Either) = some false)
    (kit_Let_Try : PySem.W.kitOne K (.ref c_Let) (.ref c_Try) = some false)
    (kit_Let_Throw : PySem.W.kitOne K (.ref c_Let) (.ref c_Throw) = some false)
    (kit_Let_Wait : PySem.W.kitOne K (.ref c_Let) (.ref c_Wait) = some false)
    (kcc_Reckon : PySem.W.findIn K (.ref c_Reckon) "__class__" = some (some (.builtin "object.__class__")))
    (kmo_Reckon : PySem.W.mroIn K c_Reckon (.type "object") = some true)
    (nword_Reckon : PySem.W.findIn K (.ref c_Reckon) "word" = some none)
    (nslot_Reckon : PySem.W.findIn K (.ref c_Reckon) "slot" = some none)
    (none_Reckon : PySem.W.findIn K (.ref c_Reckon) "one" = some none)
    (nother_Reckon : PySem.W.findIn K (.ref c_Reckon) "other" = some none)
    (kit_Reckon_Part : PySem.W.kitOne K (.ref c_Reckon) (.ref c_Part) = some true)
    (kit_Reckon_Let : PySem.W.kitOne K (.ref c_Reckon) (.ref c_Let) = some false)
    (kit_Reckon_Reckon : PySem.W.kitOne K (.ref c_Reckon) (.ref c_Reckon) = some true)
    (kit_Reckon_Take : PySem.W.kitOne K (.ref c_Reckon) (.ref c_Take) = some false)
    (kit_Reckon_Put : PySem.W.kitOne K (.ref c_Reckon) (.ref c_Put) = some false)
    (kit_Reckon_If : PySem.W.kitOne K (.ref c_Reckon) (.ref c_If) = some false)
    (kit_Reckon_Either : PySem.W.kitOne K (.ref c_Reckon) (.ref c_Either) = some false)
    (kit_Reckon_Try : PySem.W.kitOne K (.ref c_Reckon) (.ref c_Try) = some false)
    (kit_Reckon_Throw : PySem.W.kitOne K (.ref c_Reckon) (.ref c_Throw) = some false)
    (kit_Reckon_Wait : PySem.W.kitOne K (.ref c_Reckon) (.ref c_Wait) = some false)
    (kcc_Take : PySem.W.findIn K (.ref c_Take) "__class__" = some (some (.builtin "object.__class__")))
    (kmo_Take : PySem.W.mroIn K c_Take (.type "object") = some true)
    (nslot_Take : PySem.W.findIn K (.ref c_Take) "slot" = some none)
    (nplace_Take : PySem.W.findIn K (.ref c_Take) "place" = some none)
    (kit_Take_Part : PySem.W.kitOne K (.ref c_Take) (.ref c_Part) = some true)
    (kit_Take_Let : PySem.W.kitOne K (.ref c_Take) (.ref c_Let) = some false)
    (kit_Take_Reckon : PySem.W.kitOne K (.ref c_Take) (.ref c_Reckon) = some false)
    (kit_Take_Take : PySem.W.kitOne K (.ref c_Take) (.ref c_Take) = some true)
    (kit_Take_Put : PySem.W.kitOne K (.ref c_Take) (.ref c_Put) = some false)
    (kit_Take_If : PySem.W.kitOne K (.ref c_Take) (.ref c_If) = some false)
    (kit_Take_Either : PySem.W.kitOne K (.ref c_Take) (.ref c_Either) = some false)
    (kit_Take_Try : PySem.W.kitOne K (.ref c_Take) (.ref c_Try) = some false)
    (kit_Take_Throw : PySem.W.kitOne K (.ref c_Take) (.ref c_Throw) = some false)
    (kit_Take_Wait : PySem.W.kitOne K (.ref c_Take) (.ref c_Wait) = some false)
    (kcc_Put : PySem.W.findIn K (.ref c_Put) "__class__" = some (some (.builtin "object.__class__")))
    (kmo_Put : PySem.W.mroIn K c_Put (.type "object") = some true)
    (nplace_Put : PySem.W.findIn K (.ref c_Put) "place" = some none)
    (nslot_Put : PySem.W.findIn K (.ref c_Put) "slot" = some none)
    (kit_Put_Part : PySem.W.kitOne K (.ref c_Put) (.ref c_Part) = some true)
    (kit_Put_Let : PySem.W.kitOne K (.ref c_Put) (.ref c_Let) = some false)
    (kit_Put_Reckon : PySem.W.kitOne K (.ref c_Put) (.ref c_Reckon) = some false)
    (kit_Put_Take : PySem.W.kitOne K (.ref c_Put) (.ref c_Take) = some false)
    (kit_Put_Put : PySem.W.kitOne K (.ref c_Put) (.ref c_Put) = some true)
    (kit_Put_If : PySem.W.kitOne K (.ref c_Put) (.ref c_If) = some false)
    (kit_Put_Either : PySem.W.kitOne K (.ref c_Put) (.ref c_Either) = some false)
    (kit_Put_Try : PySem.W.kitOne K (.ref c_Put) (.ref c_Try) = some false)
    (kit_Put_Throw : PySem.W.kitOne K (.ref c_Put) (.ref c_Throw) = some false)
    (kit_Put_Wait : PySem.W.kitOne K (.ref c_Put) (.ref c_Wait) = some false)
    (kcc_If : PySem.W.findIn K (.ref c_If) "__class__" = some (some (.builtin "object.__class__")))
    (kmo_If : PySem.W.mroIn K c_If (.type "object") = some true)
    (nslot_If : PySem.W.findIn K (.ref c_If) "slot" = some none)
    (nparts_If : PySem.W.findIn K (.ref c_If) "parts" = some none)
    (nothers_If : PySem.W.findIn K (.ref c_If) "others" = some none)
    (kit_If_Part : PySem.W.kitOne K (.ref c_If) (.ref c_Part) = some true)
    (kit_If_Let : PySem.W.kitOne K (.ref c_If) (.ref c_Let) = some false)
    (kit_If_Reckon : PySem.W.kitOne K (.ref c_If) (.ref c_Reckon) = some false)
    (kit_If_Take : PySem.W.kitOne K (.ref c_If) (.ref c_Take) = some false)
    (kit_If_Put : PySem.W.kitOne K (.ref c_If) (.ref c_Put) = some false)
    (kit_If_If : PySem.W.kitOne K (.ref c_If) (.ref c_If) = some true)
    (kit_If_Either : PySem.W.kitOne K (.ref c_If) (.ref c_Either) = some false)
    (kit_If_Try : PySem.W.kitOne K (.ref c_If) (.ref c_Try) = some false)
    (kit_If_Throw : PySem.W.kitOne K (.ref c_If) (.ref c_Throw) = some false)
    (kit_If_Wait : PySem.W.kitOne K (.ref c_If) (.ref c_Wait) = some false)
    (kcc_Either : PySem.W.findIn K (.ref c_Either) "__class__" = some (some (.builtin "object.__class__")))
    (kmo_Either : PySem.W.mroIn K c_Either (.type "object") = some true)
    (nparts_Either : PySem.W.findIn K (.ref c_Either) "parts" = some none)
    (nothers_Either : PySem.W.findIn K (.ref c_Either) "others" = some none)
    (kit_Either_Part : PySem.W.kitOne K (.ref c_Either) (.ref c_Part) = some true)
    (kit_Either_Let : PySem.W.kitOne K (.ref c_Either) (.ref c_Let) = some false)
    (kit_Either_Reckon : PySem.W.kitOne K (.ref c_Either) (.ref c_Reckon) = some false)
    (kit_Either_Take : PySem.W.kitOne K (.ref c_Either) (.ref c_Take) = some false)
    (kit_Either_Put : PySem.W.kitOne K (.ref c_Either) (.ref c_Put) = some false)
    (kit_Either_If : PySem.W.kitOne K (.ref c_Either) (.ref c_If) = some false)
    (kit_Either_Either : PySem.W.kitOne K (.ref c_Either) (.ref c_Either) = some true)
    (kit_Either_Try : PySem.W.kitOne K (.ref c_Either) (.ref c_Try) = some false)
    (kit_Either_Throw : PySem.W.kitOne K (.ref c_Either) (.ref c_Throw) = some false)
    (kit_Either_Wait : PySem.W.kitOne K (.ref c_Either) (.ref c_Wait) = some false)
    (kcc_Try : PySem.W.findIn K (.ref c_Try) "__class__" = some (some (.builtin "object.__class__")))
    (kmo_Try : PySem.W.mroIn K c_Try (.type "object") = some true)
    (nparts_Try : PySem.W.findIn K (.ref c_Try) "parts" = some none)
    (nname_Try : PySem.W.findIn K (.ref c_Try) "name" = some none)
    (nslot_Try : PySem.W.findIn K (.ref c_Try) "slot" = some none)
    (nothers_Try : PySem.W.findIn K (.ref c_Try) "others" = some none)
    (kit_Try_Part : PySem.W.kitOne K (.ref c_Try) (.ref c_Part) = some true)
    (kit_Try_Let : PySem.W.kitOne K (.ref c_Try) (.ref c_Let) = some false)
    (kit_Try_Reckon : PySem.W.kitOne K (.ref c_Try) (.ref c_Reckon) = some false)
    (kit_Try_Take : PySem.W.kitOne K (.ref c_Try) (.ref c_Take) = some false)
    (kit_Try_Put : PySem.W.kitOne K (.ref c_Try) (.ref c_Put) = some false)
    (kit_Try_If : PySem.W.kitOne K (.ref c_Try) (.ref c_If) = some false)
    (kit_Try_Either : PySem.W.kitOne K (.ref c_Try) (.ref c_Either) = some false)
    (kit_Try_Try : PySem.W.kitOne K (.ref c_Try) (.ref c_Try) = some true)
    (kit_Try_Throw : PySem.W.kitOne K (.ref c_Try) (.ref c_Throw) = some false)
    (kit_Try_Wait : PySem.W.kitOne K (.ref c_Try) (.ref c_Wait) = some false)
    (kcc_Throw : PySem.W.findIn K (.ref c_Throw) "__class__" = some (some (.builtin "object.__class__")))
    (kmo_Throw : PySem.W.mroIn K c_Throw (.type "object") = some true)
    (nname_Throw : PySem.W.findIn K (.ref c_Throw) "name" = some none)
    (nslot_Throw : PySem.W.findIn K (.ref c_Throw) "slot" = some none)
    (kit_Throw_Part : PySem.W.kitOne K (.ref c_Throw) (.ref c_Part) = some true)
    (kit_Throw_Let : PySem.W.kitOne K (.ref c_Throw) (.ref c_Let) = some false)
    (kit_Throw_Reckon : PySem.W.kitOne K (.ref c_Throw) (.ref c_Reckon) = some false)
    (kit_Throw_Take : PySem.W.kitOne K (.ref c_Throw) (.ref c_Take) = some false)
    (kit_Throw_Put : PySem.W.kitOne K (.ref c_Throw) (.ref c_Put) = some false)
    (kit_Throw_If : PySem.W.kitOne K (.ref c_Throw) (.ref c_If) = some false)
    (kit_Throw_Either : PySem.W.kitOne K (.ref c_Throw) (.ref c_Either) = some false)
    (kit_Throw_Try : PySem.W.kitOne K (.ref c_Throw) (.ref c_Try) = some false)
    (kit_Throw_Throw : PySem.W.kitOne K (.ref c_Throw) (.ref c_Throw) = some true)
    (kit_Throw_Wait : PySem.W.kitOne K (.ref c_Throw) (.ref c_Wait) = some false)
    (kcc_Wait : PySem.W.findIn K (.ref c_Wait) "__class__" = some (some (.builtin "object.__class__")))
    (kmo_Wait : PySem.W.mroIn K c_Wait (.type "object") = some true)
    (kit_Wait_Part : PySem.W.kitOne K (.ref c_Wait) (.ref c_Part) = some true)
    (kit_Wait_Let : PySem.W.kitOne K (.ref c_Wait) (.ref c_Let) = some false)
    (kit_Wait_Reckon : PySem.W.kitOne K (.ref c_Wait) (.ref c_Reckon) = some false)
    (kit_Wait_Take : PySem.W.kitOne K (.ref c_Wait) (.ref c_Take) = some false)
    (kit_Wait_Put : PySem.W.kitOne K (.ref c_Wait) (.ref c_Put) = some false)
    (kit_Wait_If : PySem.W.kitOne K (.ref c_Wait) (.ref c_If) = some false)
    (kit_Wait_Either : PySem.W.kitOne K (.ref c_Wait) (.ref c_Either) = some false)
    (kit_Wait_Try : PySem.W.kitOne K (.ref c_Wait) (.ref c_Try) = some false)
    (kit_Wait_Throw : PySem.W.kitOne K (.ref c_Wait) (.ref c_Throw) = some false)
    (kit_Wait_Wait : PySem.W.kitOne K (.ref c_Wait) (.ref c_Wait) = some true)
    : ∃ fd : FuncData, (∀ (s : Shared) (v : Value), BindsTo s fd ⟨[v], []⟩ [("_law_script", v)]) ∧ ∀ base : Heap, K.In base → base.Ns mainGlobals mg → FnOk P w K mg base CX0 64 fa fd ["_law_script"] (spLaw K) := by
  have e := hfa.symm.trans (PySem.W.mg_of X G a_law)
  cases e
  have F_Let_init := fun_mk (st := s_Let_init) l_Let_init cc_Let_init kk_Let_init
  have F_Reckon_init := fun_mk (st := s_Reckon_init) l_Reckon_init cc_Reckon_init kk_Reckon_init
  have F_Take_init := fun_mk (st := s_Take_init) l_Take_init cc_Take_init kk_Take_init
  have F_Put_init := fun_mk (st := s_Put_init) l_Put_init cc_Put_init kk_Put_init
  have F_If_init := fun_mk (st := s_If_init) l_If_init cc_If_init kk_If_init
  have F_Either_init := fun_mk (st := s_Either_init) l_Either_init cc_Either_init kk_Either_init
  have F_Try_init := fun_mk (st := s_Try_init) l_Try_init cc_Try_init kk_Try_init
  have F_Throw_init := fun_mk (st := s_Throw_init) l_Throw_init cc_Throw_init kk_Throw_init
  have F_Let_long := fun_mk (st := s_Let_long) l_Let_long cc_Let_long kk_Let_long
  have F_Reckon_long := fun_mk (st := s_Reckon_long) l_Reckon_long cc_Reckon_long kk_Reckon_long
  have F_Take_long := fun_mk (st := s_Take_long) l_Take_long cc_Take_long kk_Take_long
  have F_Put_long := fun_mk (st := s_Put_long) l_Put_long cc_Put_long kk_Put_long
  have F_Throw_long := fun_mk (st := s_Throw_long) l_Throw_long cc_Throw_long kk_Throw_long
  have F_Wait_long := fun_mk (st := s_Wait_long) l_Wait_long cc_Wait_long kk_Wait_long
  have F_list_long := fun_mk (st := s_list_long) l_list_long cc_list_long kk_list_long
  have F_If_long := fun_mk (st := s_If_long) l_If_long cc_If_long kk_If_long
  have F_Either_long := fun_mk (st := s_Either_long) l_Either_long cc_Either_long kk_Either_long
  have F_Try_long := fun_mk (st := s_Try_long) l_Try_long cc_Try_long kk_Try_long
  have F_Let_shown := fun_mk (st := s_Let_shown) l_Let_shown cc_Let_shown kk_Let_shown
  have F_Reckon_shown := fun_mk (st := s_Reckon_shown) l_Reckon_shown cc_Reckon_shown kk_Reckon_shown
  have F_Take_shown := fun_mk (st := s_Take_shown) l_Take_shown cc_Take_shown kk_Take_shown
  have F_Put_shown := fun_mk (st := s_Put_shown) l_Put_shown cc_Put_shown kk_Put_shown
  have F_Throw_shown := fun_mk (st := s_Throw_shown) l_Throw_shown cc_Throw_shown kk_Throw_shown
  have F_Wait_shown := fun_mk (st := s_Wait_shown) l_Wait_shown cc_Wait_shown kk_Wait_shown
  have F_list_shown := fun_mk (st := s_list_shown) l_list_shown cc_list_shown kk_list_shown
  have F_bracketed := fun_mk (st := s_bracketed) l_bracketed cc_bracketed kk_bracketed
  have F_If_shown := fun_mk (st := s_If_shown) l_If_shown cc_If_shown kk_If_shown
  have F_Either_shown := fun_mk (st := s_Either_shown) l_Either_shown cc_Either_shown kk_Either_shown
  have F_Try_shown := fun_mk (st := s_Try_shown) l_Try_shown cc_Try_shown kk_Try_shown
  have F_Part_shown := fun_mk (st := s_Part_shown) l_Part_shown cc_Part_shown kk_Part_shown
  have F_Part_long := fun_mk (st := s_Part_long) l_Part_long cc_Part_long kk_Part_long
  have F_z_whole := fun_mk (st := s_z_whole) l_z_whole cc_z_whole kk_z_whole
  have F_z_name := fun_mk (st := s_z_name) l_z_name cc_z_name kk_z_name
  have F_z_slot := fun_mk (st := s_z_slot) l_z_slot cc_z_slot kk_z_slot
  have F_z_number := fun_mk (st := s_z_number) l_z_number cc_z_number kk_z_number
  have F_z_plain_pair := fun_mk (st := s_z_plain_pair) l_z_plain_pair cc_z_plain_pair kk_z_plain_pair
  have F_z_plain_right := fun_mk (st := s_z_plain_right) l_z_plain_right cc_z_plain_right kk_z_plain_right
  have F_z_shows := fun_mk (st := s_z_shows) l_z_shows cc_z_shows kk_z_shows
  have F_z_side := fun_mk (st := s_z_side) l_z_side cc_z_side kk_z_side
  have F_z_sided := fun_mk (st := s_z_sided) l_z_sided cc_z_sided kk_z_sided
  have F_law := fun_mk (st := s_law) l_law cc_law kk_law
  let d : Ad := { K := K, cLet := c_Let, cReckon := c_Reckon, cTake := c_Take, cPut := c_Put, cIf := c_If, cEither := c_Either, cTry := c_Try, cThrow := c_Throw, cWait := c_Wait, cPart := c_Part }
  have T : Txt d mg { f_Let_init := f_Let_init, d_Let_init := _, f_Reckon_init := f_Reckon_init, d_Reckon_init := _, f_Take_init := f_Take_init, d_Take_init := _, f_Put_init := f_Put_init, d_Put_init := _, f_If_init := f_If_init, d_If_init := _, f_Either_init := f_Either_init, d_Either_init := _, f_Try_init := f_Try_init, d_Try_init := _, f_Throw_init := f_Throw_init, d_Throw_init := _, f_Let_long := f_Let_long, d_Let_long := _, f_Reckon_long := f_Reckon_long, d_Reckon_long := _, f_Take_long := f_Take_long, d_Take_long := _, f_Put_long := f_Put_long, d_Put_long := _, f_Throw_long := f_Throw_long, d_Throw_long := _, f_Wait_long := f_Wait_long, d_Wait_long := _, f_list_long := f_list_long, d_list_long := _, f_If_long := f_If_long, d_If_long := _, f_Either_long := f_Either_long, d_Either_long := _, f_Try_long := f_Try_long, d_Try_long := _, f_Let_shown := f_Let_shown, d_Let_shown := _, f_Reckon_shown := f_Reckon_shown, d_Reckon_shown := _, f_Take_shown := f_Take_shown, d_Take_shown := _, f_Put_shown := f_Put_shown, d_Put_shown := _, f_Throw_shown := f_Throw_shown, d_Throw_shown := _, f_Wait_shown := f_Wait_shown, d_Wait_shown := _, f_list_shown := f_list_shown, d_list_shown := _, f_bracketed := f_bracketed, d_bracketed := _, f_If_shown := f_If_shown, d_If_shown := _, f_Either_shown := f_Either_shown, d_Either_shown := _, f_Try_shown := f_Try_shown, d_Try_shown := _, f_Part_shown := f_Part_shown, d_Part_shown := _, f_Part_long := f_Part_long, d_Part_long := _, f_z_whole := f_z_whole, d_z_whole := _, f_z_name := f_z_name, d_z_name := _, f_z_slot := f_z_slot, d_z_slot := _, f_z_number := f_z_number, d_z_number := _, f_z_plain_pair := f_z_plain_pair, d_z_plain_pair := _, f_z_plain_right := f_z_plain_right, d_z_plain_right := _, f_z_shows := f_z_shows, d_z_shows := _, f_z_side := f_z_side, d_z_side := _, f_z_sided := f_z_sided, d_z_sided := _, f_law := fa, d_law := _ } :=
    { F_Let_init := F_Let_init
      B_Let_init := F_Let_init.binds (ps := ["self", "slot", "number"]) fun _ _ _ _ _ _ us hl => match us, hl with | [_, _, _], _ => rfl
      K_Let := ⟨mk_Let, a_Let_init, i_Let_init, kc_Let⟩
      F_Reckon_init := F_Reckon_init
      B_Reckon_init := F_Reckon_init.binds (ps := ["self", "word", "slot", "one", "other"]) fun _ _ _ _ _ _ us hl => match us, hl with | [_, _, _, _, _], _ => rfl
      K_Reckon := ⟨mk_Reckon, a_Reckon_init, i_Reckon_init, kc_Reckon⟩
      F_Take_init := F_Take_init
      B_Take_init := F_Take_init.binds (ps := ["self", "slot", "place"]) fun _ _ _ _ _ _ us hl => match us, hl with | [_, _, _], _ => rfl
      K_Take := ⟨mk_Take, a_Take_init, i_Take_init, kc_Take⟩
      F_Put_init := F_Put_init
      B_Put_init := F_Put_init.binds (ps := ["self", "place", "slot"]) fun _ _ _ _ _ _ us hl => match us, hl with | [_, _, _], _ => rfl
      K_Put := ⟨mk_Put, a_Put_init, i_Put_init, kc_Put⟩
      F_If_init := F_If_init
      B_If_init := F_If_init.binds (ps := ["self", "slot", "parts", "others"]) fun _ _ _ _ _ _ us hl => match us, hl with | [_, _, _, _], _ => rfl
      K_If := ⟨mk_If, a_If_init, i_If_init, kc_If⟩
      F_Either_init := F_Either_init
      B_Either_init := F_Either_init.binds (ps := ["self", "parts", "others"]) fun _ _ _ _ _ _ us hl => match us, hl with | [_, _, _], _ => rfl
      K_Either := ⟨mk_Either, a_Either_init, i_Either_init, kc_Either⟩
      F_Try_init := F_Try_init
      B_Try_init := F_Try_init.binds (ps := ["self", "parts", "name", "slot", "others"]) fun _ _ _ _ _ _ us hl => match us, hl with | [_, _, _, _, _], _ => rfl
      K_Try := ⟨mk_Try, a_Try_init, i_Try_init, kc_Try⟩
      F_Throw_init := F_Throw_init
      B_Throw_init := F_Throw_init.binds (ps := ["self", "name", "slot"]) fun _ _ _ _ _ _ us hl => match us, hl with | [_, _, _], _ => rfl
      K_Throw := ⟨mk_Throw, a_Throw_init, i_Throw_init, kc_Throw⟩
      F_Let_long := F_Let_long
      B_Let_long := F_Let_long.binds (ps := ["self"]) fun _ _ _ _ _ _ us hl => match us, hl with | [_], _ => rfl
      M_Let_long := ⟨a_Let_long, i_Let_long, kk_Let_long⟩
      F_Reckon_long := F_Reckon_long
      B_Reckon_long := F_Reckon_long.binds (ps := ["self"]) fun _ _ _ _ _ _ us hl => match us, hl with | [_], _ => rfl
      M_Reckon_long := ⟨a_Reckon_long, i_Reckon_long, kk_Reckon_long⟩
      F_Take_long := F_Take_long
      B_Take_long := F_Take_long.binds (ps := ["self"]) fun _ _ _ _ _ _ us hl => match us, hl with | [_], _ => rfl
      M_Take_long := ⟨a_Take_long, i_Take_long, kk_Take_long⟩
      F_Put_long := F_Put_long
      B_Put_long := F_Put_long.binds (ps := ["self"]) fun _ _ _ _ _ _ us hl => match us, hl with | [_], _ => rfl
      M_Put_long := ⟨a_Put_long, i_Put_long, kk_Put_long⟩
      F_Throw_long := F_Throw_long
      B_Throw_long := F_Throw_long.binds (ps := ["self"]) fun _ _ _ _ _ _ us hl => match us, hl with | [_], _ => rfl
      M_Throw_long := ⟨a_Throw_long, i_Throw_long, kk_Throw_long⟩
      F_Wait_long := F_Wait_long
      B_Wait_long := F_Wait_long.binds (ps := ["self"]) fun _ _ _ _ _ _ us hl => match us, hl with | [_], _ => rfl
      M_Wait_long := ⟨a_Wait_long, i_Wait_long, kk_Wait_long⟩
      F_list_long := F_list_long
      B_list_long := F_list_long.binds (ps := ["parts"]) fun _ _ _ _ _ _ us hl => match us, hl with | [_], _ => rfl
      m_list_long := PySem.W.mg_of X G a_list_long
      F_If_long := F_If_long
      B_If_long := F_If_long.binds (ps := ["self"]) fun _ _ _ _ _ _ us hl => match us, hl with | [_], _ => rfl
      M_If_long := ⟨a_If_long, i_If_long, kk_If_long⟩
      F_Either_long := F_Either_long
      B_Either_long := F_Either_long.binds (ps := ["self"]) fun _ _ _ _ _ _ us hl => match us, hl with | [_], _ => rfl
      M_Either_long := ⟨a_Either_long, i_Either_long, kk_Either_long⟩
      F_Try_long := F_Try_long
      B_Try_long := F_Try_long.binds (ps := ["self"]) fun _ _ _ _ _ _ us hl => match us, hl with | [_], _ => rfl
      M_Try_long := ⟨a_Try_long, i_Try_long, kk_Try_long⟩
      F_Let_shown := F_Let_shown
      B_Let_shown := F_Let_shown.binds (ps := ["self"]) fun _ _ _ _ _ _ us hl => match us, hl with | [_], _ => rfl
      M_Let_shown := ⟨a_Let_shown, i_Let_shown, kk_Let_shown⟩
      F_Reckon_shown := F_Reckon_shown
      B_Reckon_shown := F_Reckon_shown.binds (ps := ["self"]) fun _ _ _ _ _ _ us hl => match us, hl with | [_], _ => rfl
      M_Reckon_shown := ⟨a_Reckon_shown, i_Reckon_shown, kk_Reckon_shown⟩
      F_Take_shown := F_Take_shown
      B_Take_shown := F_Take_shown.binds (ps := ["self"]) fun _ _ _ _ _ _ us hl => match us, hl with | [_], _ => rfl
      M_Take_shown := ⟨a_Take_shown, i_Take_shown, kk_Take_shown⟩
      F_Put_shown := F_Put_shown
      B_Put_shown := F_Put_shown.binds (ps := ["self"]) fun _ _ _ _ _ _ us hl => match us, hl with | [_], _ => rfl
      M_Put_shown := ⟨a_Put_shown, i_Put_shown, kk_Put_shown⟩
      F_Throw_shown := F_Throw_shown
      B_Throw_shown := F_Throw_shown.binds (ps := ["self"]) fun _ _ _ _ _ _ us hl => match us, hl with | [_], _ => rfl
      M_Throw_shown := ⟨a_Throw_shown, i_Throw_shown, kk_Throw_shown⟩
      F_Wait_shown := F_Wait_shown
      B_Wait_shown := F_Wait_shown.binds (ps := ["self"]) fun _ _ _ _ _ _ us hl => match us, hl with | [_], _ => rfl
      M_Wait_shown := ⟨a_Wait_shown, i_Wait_shown, kk_Wait_shown⟩
      F_list_shown := F_list_shown
      B_list_shown := F_list_shown.binds (ps := ["parts"]) fun _ _ _ _ _ _ us hl => match us, hl with | [_], _ => rfl
      m_list_shown := PySem.W.mg_of X G a_list_shown
      F_bracketed := F_bracketed
      B_bracketed := F_bracketed.binds (ps := ["parts"]) fun _ _ _ _ _ _ us hl => match us, hl with | [_], _ => rfl
      m_bracketed := PySem.W.mg_of X G a_bracketed
      F_If_shown := F_If_shown
      B_If_shown := F_If_shown.binds (ps := ["self"]) fun _ _ _ _ _ _ us hl => match us, hl with | [_], _ => rfl
      M_If_shown := ⟨a_If_shown, i_If_shown, kk_If_shown⟩
      F_Either_shown := F_Either_shown
      B_Either_shown := F_Either_shown.binds (ps := ["self"]) fun _ _ _ _ _ _ us hl => match us, hl with | [_], _ => rfl
      M_Either_shown := ⟨a_Either_shown, i_Either_shown, kk_Either_shown⟩
      F_Try_shown := F_Try_shown
      B_Try_shown := F_Try_shown.binds (ps := ["self"]) fun _ _ _ _ _ _ us hl => match us, hl with | [_], _ => rfl
      M_Try_shown := ⟨a_Try_shown, i_Try_shown, kk_Try_shown⟩
      F_Part_shown := F_Part_shown
      B_Part_shown := F_Part_shown.binds (ps := ["self"]) fun _ _ _ _ _ _ us hl => match us, hl with | [_], _ => rfl
      M_Part_shown := ⟨a_Part_shown, i_Part_shown, kk_Part_shown⟩
      F_Part_long := F_Part_long
      B_Part_long := F_Part_long.binds (ps := ["self"]) fun _ _ _ _ _ _ us hl => match us, hl with | [_], _ => rfl
      M_Part_long := ⟨a_Part_long, i_Part_long, kk_Part_long⟩
      F_z_whole := F_z_whole
      B_z_whole := F_z_whole.binds (ps := ["_law_found"]) fun _ _ _ _ _ _ us hl => match us, hl with | [_], _ => rfl
      m_z_whole := PySem.W.mg_of X G a_z_whole
      F_z_name := F_z_name
      B_z_name := F_z_name.binds (ps := ["_law_cell"]) fun _ _ _ _ _ _ us hl => match us, hl with | [_], _ => rfl
      m_z_name := PySem.W.mg_of X G a_z_name
      F_z_slot := F_z_slot
      B_z_slot := F_z_slot.binds (ps := ["_law_number_here"]) fun _ _ _ _ _ _ us hl => match us, hl with | [_], _ => rfl
      m_z_slot := PySem.W.mg_of X G a_z_slot
      F_z_number := F_z_number
      B_z_number := F_z_number.binds (ps := ["_law_cell"]) fun _ _ _ _ _ _ us hl => match us, hl with | [_], _ => rfl
      m_z_number := PySem.W.mg_of X G a_z_number
      F_z_plain_pair := F_z_plain_pair
      B_z_plain_pair := F_z_plain_pair.binds (ps := ["_law_way", "_law_cell"]) fun _ _ _ _ _ _ us hl => match us, hl with | [_, _], _ => rfl
      m_z_plain_pair := PySem.W.mg_of X G a_z_plain_pair
      F_z_plain_right := F_z_plain_right
      B_z_plain_right := F_z_plain_right.binds (ps := ["_law_part", "_law_way", "_law_cell"]) fun _ _ _ _ _ _ us hl => match us, hl with | [_, _, _], _ => rfl
      m_z_plain_right := PySem.W.mg_of X G a_z_plain_right
      F_z_shows := F_z_shows
      B_z_shows := F_z_shows.binds (ps := ["_law_part", "_law_text", "_law_many"]) fun _ _ _ _ _ _ us hl => match us, hl with | [_, _, _], _ => rfl
      m_z_shows := PySem.W.mg_of X G a_z_shows
      F_z_side := F_z_side
      B_z_side := F_z_side.binds (ps := ["_law_cell"]) fun _ _ _ _ _ _ us hl => match us, hl with | [_], _ => rfl
      m_z_side := PySem.W.mg_of X G a_z_side
      F_z_sided := F_z_sided
      B_z_sided := F_z_sided.binds (ps := ["_law_way", "_law_cell"]) fun _ _ _ _ _ _ us hl => match us, hl with | [_, _], _ => rfl
      m_z_sided := PySem.W.mg_of X G a_z_sided
      F_law := F_law
      B_law := F_law.binds (ps := ["_law_script"]) fun _ _ _ _ _ _ us hl => match us, hl with | [_], _ => rfl
      m_law := PySem.W.mg_of X G a_law
      b_bool := PySem.W.mg_none_of X G b_bool
      b_int := PySem.W.mg_none_of X G b_int
      b_isinstance := PySem.W.mg_none_of X G b_isinstance
      b_len := PySem.W.mg_none_of X G b_len
      b_list := PySem.W.mg_none_of X G b_list
      b_range := PySem.W.mg_none_of X G b_range
      b_str := PySem.W.mg_none_of X G b_str
      b_sum := PySem.W.mg_none_of X G b_sum
      g_Let := PySem.W.mg_of X G g_Let
      g_Reckon := PySem.W.mg_of X G g_Reckon
      g_Take := PySem.W.mg_of X G g_Take
      g_Put := PySem.W.mg_of X G g_Put
      g_If := PySem.W.mg_of X G g_If
      g_Either := PySem.W.mg_of X G g_Either
      g_Try := PySem.W.mg_of X G g_Try
      g_Throw := PySem.W.mg_of X G g_Throw
      g_Wait := PySem.W.mg_of X G g_Wait
      MO_Wait := ⟨mk_Wait, in_Wait, kc_Wait⟩
      g_Part := PySem.W.mg_of X G g_Part
      MO_Part := ⟨mk_Part, in_Part, kc_Part⟩
      t_Parts := { cl := fun k => (by cases k; exact ⟨pg_Let, hd_Let, po_Let, sa_Let⟩; exact ⟨pg_Reckon, hd_Reckon, po_Reckon, sa_Reckon⟩; exact ⟨pg_Take, hd_Take, po_Take, sa_Take⟩; exact ⟨pg_Put, hd_Put, po_Put, sa_Put⟩; exact ⟨pg_If, hd_If, po_If, sa_If⟩; exact ⟨pg_Either, hd_Either, po_Either, sa_Either⟩; exact ⟨pg_Try, hd_Try, po_Try, sa_Try⟩; exact ⟨pg_Throw, hd_Throw, po_Throw, sa_Throw⟩; exact ⟨pg_Wait, hd_Wait, po_Wait, sa_Wait⟩), cc := fun k => (by cases k; exact kcc_Let; exact kcc_Reckon; exact kcc_Take; exact kcc_Put; exact kcc_If; exact kcc_Either; exact kcc_Try; exact kcc_Throw; exact kcc_Wait), mo := fun k => (by cases k; exact kmo_Let; exact kmo_Reckon; exact kmo_Take; exact kmo_Put; exact kmo_If; exact kmo_Either; exact kmo_Try; exact kmo_Throw; exact kmo_Wait), gs := kgs, tk := ktk, kit := fun k j hj => (by cases k <;> cases j; exact kit_Let_Let; exact kit_Let_Reckon; exact kit_Let_Take; exact kit_Let_Put; exact kit_Let_If; exact kit_Let_Either; exact kit_Let_Try; exact kit_Let_Throw; exact absurd rfl hj; exact kit_Reckon_Let; exact kit_Reckon_Reckon; exact kit_Reckon_Take; exact kit_Reckon_Put; exact kit_Reckon_If; exact kit_Reckon_Either; exact kit_Reckon_Try; exact kit_Reckon_Throw; exact absurd rfl hj; exact kit_Take_Let; exact kit_Take_Reckon; exact kit_Take_Take; exact kit_Take_Put; exact kit_Take_If; exact kit_Take_Either; exact kit_Take_Try; exact kit_Take_Throw; exact absurd rfl hj; exact kit_Put_Let; exact kit_Put_Reckon; exact kit_Put_Take; exact kit_Put_Put; exact kit_Put_If; exact kit_Put_Either; exact kit_Put_Try; exact kit_Put_Throw; exact absurd rfl hj; exact kit_If_Let; exact kit_If_Reckon; exact kit_If_Take; exact kit_If_Put; exact kit_If_If; exact kit_If_Either; exact kit_If_Try; exact kit_If_Throw; exact absurd rfl hj; exact kit_Either_Let; exact kit_Either_Reckon; exact kit_Either_Take; exact kit_Either_Put; exact kit_Either_If; exact kit_Either_Either; exact kit_Either_Try; exact kit_Either_Throw; exact absurd rfl hj; exact kit_Try_Let; exact kit_Try_Reckon; exact kit_Try_Take; exact kit_Try_Put; exact kit_Try_If; exact kit_Try_Either; exact kit_Try_Try; exact kit_Try_Throw; exact absurd rfl hj; exact kit_Throw_Let; exact kit_Throw_Reckon; exact kit_Throw_Take; exact kit_Throw_Put; exact kit_Throw_If; exact kit_Throw_Either; exact kit_Throw_Try; exact kit_Throw_Throw; exact absurd rfl hj; exact kit_Wait_Let; exact kit_Wait_Reckon; exact kit_Wait_Take; exact kit_Wait_Put; exact kit_Wait_If; exact kit_Wait_Either; exact kit_Wait_Try; exact kit_Wait_Throw; exact absurd rfl hj), na := fun k n h => (by cases k; (simp only [atK, List.mem_cons, List.not_mem_nil, or_false] at h; rcases h with rfl | rfl; exact nslot_Let; exact nnumber_Let); (simp only [atK, List.mem_cons, List.not_mem_nil, or_false] at h; rcases h with rfl | rfl | rfl | rfl; exact nword_Reckon; exact nslot_Reckon; exact none_Reckon; exact nother_Reckon); (simp only [atK, List.mem_cons, List.not_mem_nil, or_false] at h; rcases h with rfl | rfl; exact nslot_Take; exact nplace_Take); (simp only [atK, List.mem_cons, List.not_mem_nil, or_false] at h; rcases h with rfl | rfl; exact nplace_Put; exact nslot_Put); (simp only [atK, List.mem_cons, List.not_mem_nil, or_false] at h; rcases h with rfl | rfl | rfl; exact nslot_If; exact nparts_If; exact nothers_If); (simp only [atK, List.mem_cons, List.not_mem_nil, or_false] at h; rcases h with rfl | rfl; exact nparts_Either; exact nothers_Either); (simp only [atK, List.mem_cons, List.not_mem_nil, or_false] at h; rcases h with rfl | rfl | rfl | rfl; exact nparts_Try; exact nname_Try; exact nslot_Try; exact nothers_Try); (simp only [atK, List.mem_cons, List.not_mem_nil, or_false] at h; rcases h with rfl | rfl; exact nname_Throw; exact nslot_Throw); (simp only [atK, List.mem_cons, List.not_mem_nil, or_false] at h; done)) }
      t_PO := ⟨⟨pg_Part, hd_Part, po_Part, sa_Part⟩, kcc_Part, kmo_Part, kgs, ktk, kit_Part_Part⟩
      t_PP := fun k => (by cases k; exact kit_Let_Part; exact kit_Reckon_Part; exact kit_Take_Part; exact kit_Put_Part; exact kit_If_Part; exact kit_Either_Part; exact kit_Try_Part; exact kit_Throw_Part; exact kit_Wait_Part)
      t_PW := fun k => (by cases k; exact kit_Let_Wait; exact kit_Reckon_Wait; exact kit_Take_Wait; exact kit_Put_Wait; exact kit_If_Wait; exact kit_Either_Wait; exact kit_Try_Wait; exact kit_Throw_Wait; exact kit_Wait_Wait) }
  exact ⟨PySem.W.fnOf "law" "law" (defArgs s_law) (defBody s_law) (defScope s_law) .none kV_law dc_law pm_law an_law cd_law ct_law, fun s v => .of_eq rfl, fun base _ _ => ok_law T⟩
theorem walk {l : PySem.W.OpenLaw} {q : Program} {loose : List Str} {XP : (Str → Option Value) → Heap → Prop} {YP : World → Heap → Prop} {d : DefRec} {K : Params → PySem.W.Frag} (hn : l.most = some 63) (hdf : d.params.defaults = [])
    (hY : ∀ (w : World) (h : Heap), YP w h → (K w.params).In h)
    (F : ∀ (w : World) (mg : Str → Option Value) (fa : Addr) (h : Heap), (K w.params).In h → h.Ns mainGlobals mg → mg d.name = some (.ref fa) →
      ∃ fd : FuncData, (∀ (s : Shared) (u : Value), BindsTo s fd ⟨[u], []⟩ [("_law_script", u)]) ∧ ∀ base : Heap, (K w.params).In base → base.Ns mainGlobals mg → FnOk l.prog w (K w.params) mg base CX0 64 fa fd ["_law_script"] (spLaw (K w.params))) :
    PySem.W.WalkO q loose XP YP l.row.toRowW d [] (fun f vs => PySem.call f vs) :=
  L2.walk_of (n := 63) (k := 64) (x := "_law_script") (CX := fun _ => CX0) (sp := fun w => spLaw (K w.params)) hn (by decide) hdf ⟨rfl, by decide, by decide⟩ hY F (fun _ _ a ns hl _ hS => ⟨a, ns, rfl, hS, hl, fun _ => rfl⟩) fun _ _ _ _ _ z => z
end Row
open PySem PySem.W PyProof.Rows
set_option maxRecDepth 100000 in
set_option maxHeartbeats 0 in
theorem PySem.Challenge.cw_retryhall_k04_parts_shown_and_long_holds : PySem.Challenge.rw_retryhall_k04_parts_shown_and_long.Holds := by
  refine rtTop ?_
  k_fill
  refine Row.walk (l := PySem.Challenge.rw_retryhall_k04_parts_shown_and_long) rfl rfl (fun w h Y => PySem.W.kIn_of Y) ?F
  case F =>
    intro w mg fa h KX G hmg
    refine' Row.all_mk KX G hmg ?a_Let_init ?i_Let_init ?l_Let_init ?cc_Let_init ?kk_Let_init ?a_Reckon_init ?i_Reckon_init ?l_Reckon_init ?cc_Reckon_init ?kk_Reckon_init ?a_Take_init ?i_Take_init ?l_Take_init ?cc_Take_init ?kk_Take_init ?a_Put_init ?i_Put_init ?l_Put_init ?cc_Put_init ?kk_Put_init ?a_If_init ?i_If_init ?l_If_init ?cc_If_init ?kk_If_init ?a_Either_init ?i_Either_init ?l_Either_init ?cc_Either_init ?kk_Either_init ?a_Try_init ?i_Try_init ?l_Try_init ?cc_Try_init ?kk_Try_init ?a_Throw_init ?i_Throw_init ?l_Throw_init ?cc_Throw_init ?kk_Throw_init ?a_Let_long ?i_Let_long ?l_Let_long ?cc_Let_long ?kk_Let_long ?a_Reckon_long ?i_Reckon_long ?l_Reckon_long ?cc_Reckon_long ?kk_Reckon_long ?a_Take_long ?i_Take_long ?l_Take_long ?cc_Take_long ?kk_Take_long ?a_Put_long ?i_Put_long ?l_Put_long ?cc_Put_long ?kk_Put_long ?a_Throw_long ?i_Throw_long ?l_Throw_long ?cc_Throw_long ?kk_Throw_long ?a_Wait_long ?i_Wait_long ?l_Wait_long ?cc_Wait_long ?kk_Wait_long ?a_list_long ?l_list_long ?cc_list_long ?kk_list_long ?a_If_long ?i_If_long ?l_If_long ?cc_If_long ?kk_If_long ?a_Either_long ?i_Either_long ?l_Either_long ?cc_Either_long ?kk_Either_long ?a_Try_long ?i_Try_long ?l_Try_long ?cc_Try_long ?kk_Try_long ?a_Let_shown ?i_Let_shown ?l_Let_shown ?cc_Let_shown ?kk_Let_shown ?a_Reckon_shown ?i_Reckon_shown ?l_Reckon_shown ?cc_Reckon_shown ?kk_Reckon_shown ?a_Take_shown ?i_Take_shown ?l_Take_shown ?cc_Take_shown ?kk_Take_shown ?a_Put_shown ?i_Put_shown ?l_Put_shown ?cc_Put_shown ?kk_Put_shown ?a_Throw_shown ?i_Throw_shown ?l_Throw_shown ?cc_Throw_shown ?kk_Throw_shown ?a_Wait_shown ?i_Wait_shown ?l_Wait_shown ?cc_Wait_shown ?kk_Wait_shown ?a_list_shown ?l_list_shown ?cc_list_shown ?kk_list_shown ?a_bracketed ?l_bracketed ?cc_bracketed ?kk_bracketed ?a_If_shown ?i_If_shown ?l_If_shown ?cc_If_shown ?kk_If_shown ?a_Either_shown ?i_Either_shown ?l_Either_shown ?cc_Either_shown ?kk_Either_shown ?a_Try_shown ?i_Try_shown ?l_Try_shown ?cc_Try_shown ?kk_Try_shown ?a_Part_shown ?i_Part_shown ?l_Part_shown ?cc_Part_shown ?kk_Part_shown ?a_Part_long ?i_Part_long ?l_Part_long ?cc_Part_long ?kk_Part_long ?a_z_whole ?l_z_whole ?cc_z_whole ?kk_z_whole ?a_z_name ?l_z_name ?cc_z_name ?kk_z_name ?a_z_slot ?l_z_slot ?cc_z_slot ?kk_z_slot ?a_z_number ?l_z_number ?cc_z_number ?kk_z_number ?a_z_plain_pair ?l_z_plain_pair ?cc_z_plain_pair ?kk_z_plain_pair ?a_z_plain_right ?l_z_plain_right ?cc_z_plain_right ?kk_z_plain_right ?a_z_shows ?l_z_shows ?cc_z_shows ?kk_z_shows ?a_z_side ?l_z_side ?cc_z_side ?kk_z_side ?a_z_sided ?l_z_sided ?cc_z_sided ?kk_z_sided ?a_law ?l_law ?cc_law ?kk_law ?b_bool ?b_int ?b_isinstance ?b_len ?b_list ?b_range ?b_str ?b_sum ?g_Let ?pg_Let ?hd_Let ?po_Let ?sa_Let ?mk_Let ?kc_Let ?g_Reckon ?pg_Reckon ?hd_Reckon ?po_Reckon ?sa_Reckon ?mk_Reckon ?kc_Reckon ?g_Take ?pg_Take ?hd_Take ?po_Take ?sa_Take ?mk_Take ?kc_Take ?g_Put ?pg_Put ?hd_Put ?po_Put ?sa_Put ?mk_Put ?kc_Put ?g_If ?pg_If ?hd_If ?po_If ?sa_If ?mk_If ?kc_If ?g_Either ?pg_Either ?hd_Either ?po_Either ?sa_Either ?mk_Either ?kc_Either ?g_Try ?pg_Try ?hd_Try ?po_Try ?sa_Try ?mk_Try ?kc_Try ?g_Throw ?pg_Throw ?hd_Throw ?po_Throw ?sa_Throw ?mk_Throw ?kc_Throw ?g_Wait ?pg_Wait ?hd_Wait ?po_Wait ?sa_Wait ?mk_Wait ?kc_Wait ?in_Wait ?g_Part ?pg_Part ?hd_Part ?po_Part ?sa_Part ?mk_Part ?kc_Part ?in_Part ?kgs ?ktk ?kcc_Let ?kmo_Let ?nslot_Let ?nnumber_Let ?kcc_Part ?kmo_Part ?kit_Part_Part ?kit_Let_Part ?kit_Let_Let ?kit_Let_Reckon ?kit_Let_Take ?kit_Let_Put ?kit_Let_If ?kit_Let_Either ?kit_Let_Try ?kit_Let_Throw ?kit_Let_Wait ?kcc_Reckon ?kmo_Reckon ?nword_Reckon ?nslot_Reckon ?none_Reckon ?nother_Reckon ?kit_Reckon_Part ?kit_Reckon_Let ?kit_Reckon_Reckon ?kit_Reckon_Take ?kit_Reckon_Put ?kit_Reckon_If ?kit_Reckon_Either ?kit_Reckon_Try ?kit_Reckon_Throw ?kit_Reckon_Wait ?kcc_Take ?kmo_Take ?nslot_Take ?nplace_Take ?kit_Take_Part ?kit_Take_Let ?kit_Take_Reckon ?kit_Take_Take ?kit_Take_Put ?kit_Take_If ?kit_Take_Either ?kit_Take_Try ?kit_Take_Throw ?kit_Take_Wait ?kcc_Put ?kmo_Put ?nplace_Put ?nslot_Put ?kit_Put_Part ?kit_Put_Let ?kit_Put_Reckon ?kit_Put_Take ?kit_Put_Put ?kit_Put_If ?kit_Put_Either ?kit_Put_Try ?kit_Put_Throw ?kit_Put_Wait ?kcc_If ?kmo_If ?nslot_If ?nparts_If ?nothers_If ?kit_If_Part ?kit_If_Let ?kit_If_Reckon ?kit_If_Take ?kit_If_Put ?kit_If_If ?kit_If_Either ?kit_If_Try ?kit_If_Throw ?kit_If_Wait ?kcc_Either ?kmo_Either ?nparts_Either ?nothers_Either ?kit_Either_Part ?kit_Either_Let ?kit_Either_Reckon ?kit_Either_Take ?kit_Either_Put ?kit_Either_If ?kit_Either_Either ?kit_Either_Try ?kit_Either_Throw ?kit_Either_Wait ?kcc_Try ?kmo_Try ?nparts_Try ?nname_Try ?nslot_Try ?nothers_Try ?kit_Try_Part ?kit_Try_Let ?kit_Try_Reckon ?kit_Try_Take ?kit_Try_Put ?kit_Try_If ?kit_Try_Either ?kit_Try_Try ?kit_Try_Throw ?kit_Try_Wait ?kcc_Throw ?kmo_Throw ?nname_Throw ?nslot_Throw ?kit_Throw_Part ?kit_Throw_Let ?kit_Throw_Reckon ?kit_Throw_Take ?kit_Throw_Put ?kit_Throw_If ?kit_Throw_Either ?kit_Throw_Try ?kit_Throw_Throw ?kit_Throw_Wait ?kcc_Wait ?kmo_Wait ?kit_Wait_Part ?kit_Wait_Let ?kit_Wait_Reckon ?kit_Wait_Take ?kit_Wait_Put ?kit_Wait_If ?kit_Wait_Either ?kit_Wait_Try ?kit_Wait_Throw ?kit_Wait_Wait
    (case g_Let => k_is)
    (case g_Reckon => k_is)
    (case g_Take => k_is)
    (case g_Put => k_is)
    (case g_If => k_is)
    (case g_Either => k_is)
    (case g_Try => k_is)
    (case g_Throw => k_is)
    (case g_Wait => k_is)
    (case g_Part => k_is)
    (case a_Let_init => k_is)
    (case i_Let_init => k_is)
    (case l_Let_init => k_is)
    (case cc_Let_init => k_is)
    (case kk_Let_init => k_is)
    (case a_Reckon_init => k_is)
    (case i_Reckon_init => k_is)
    (case l_Reckon_init => k_is)
    (case cc_Reckon_init => k_is)
    (case kk_Reckon_init => k_is)
    (case a_Take_init => k_is)
    (case i_Take_init => k_is)
    (case l_Take_init => k_is)
    (case cc_Take_init => k_is)
    (case kk_Take_init => k_is)
    (case a_Put_init => k_is)
    (case i_Put_init => k_is)
    (case l_Put_init => k_is)
    (case cc_Put_init => k_is)
    (case kk_Put_init => k_is)
    (case a_If_init => k_is)
    (case i_If_init => k_is)
    (case l_If_init => k_is)
    (case cc_If_init => k_is)
    (case kk_If_init => k_is)
    (case a_Either_init => k_is)
    (case i_Either_init => k_is)
    (case l_Either_init => k_is)
    (case cc_Either_init => k_is)
    (case kk_Either_init => k_is)
    (case a_Try_init => k_is)
    (case i_Try_init => k_is)
    (case l_Try_init => k_is)
    (case cc_Try_init => k_is)
    (case kk_Try_init => k_is)
    (case a_Throw_init => k_is)
    (case i_Throw_init => k_is)
    (case l_Throw_init => k_is)
    (case cc_Throw_init => k_is)
    (case kk_Throw_init => k_is)
    (case a_Let_long => k_is)
    (case i_Let_long => k_is)
    (case l_Let_long => k_is)
    (case cc_Let_long => k_is)
    (case kk_Let_long => k_is)
    (case a_Reckon_long => k_is)
    (case i_Reckon_long => k_is)
    (case l_Reckon_long => k_is)
    (case cc_Reckon_long => k_is)
    (case kk_Reckon_long => k_is)
    (case a_Take_long => k_is)
    (case i_Take_long => k_is)
    (case l_Take_long => k_is)
    (case cc_Take_long => k_is)
    (case kk_Take_long => k_is)
    (case a_Put_long => k_is)
    (case i_Put_long => k_is)
    (case l_Put_long => k_is)
    (case cc_Put_long => k_is)
    (case kk_Put_long => k_is)
    (case a_Throw_long => k_is)
    (case i_Throw_long => k_is)
    (case l_Throw_long => k_is)
    (case cc_Throw_long => k_is)
    (case kk_Throw_long => k_is)
    (case a_Wait_long => k_is)
    (case i_Wait_long => k_is)
    (case l_Wait_long => k_is)
    (case cc_Wait_long => k_is)
    (case kk_Wait_long => k_is)
    (case a_list_long => k_is)
    (case l_list_long => k_is)
    (case cc_list_long => k_is)
    (case kk_list_long => k_is)
    (case a_If_long => k_is)
    (case i_If_long => k_is)
    (case l_If_long => k_is)
    (case cc_If_long => k_is)
    (case kk_If_long => k_is)
    (case a_Either_long => k_is)
    (case i_Either_long => k_is)
    (case l_Either_long => k_is)
    (case cc_Either_long => k_is)
    (case kk_Either_long => k_is)
    (case a_Try_long => k_is)
    (case i_Try_long => k_is)
    (case l_Try_long => k_is)
    (case cc_Try_long => k_is)
    (case kk_Try_long => k_is)
    (case a_Let_shown => k_is)
    (case i_Let_shown => k_is)
    (case l_Let_shown => k_is)
    (case cc_Let_shown => k_is)
    (case kk_Let_shown => k_is)
    (case a_Reckon_shown => k_is)
    (case i_Reckon_shown => k_is)
    (case l_Reckon_shown => k_is)
    (case cc_Reckon_shown => k_is)
    (case kk_Reckon_shown => k_is)
    (case a_Take_shown => k_is)
    (case i_Take_shown => k_is)
    (case l_Take_shown => k_is)
    (case cc_Take_shown => k_is)
    (case kk_Take_shown => k_is)
    (case a_Put_shown => k_is)
    (case i_Put_shown => k_is)
    (case l_Put_shown => k_is)
    (case cc_Put_shown => k_is)
    (case kk_Put_shown => k_is)
    (case a_Throw_shown => k_is)
    (case i_Throw_shown => k_is)
    (case l_Throw_shown => k_is)
    (case cc_Throw_shown => k_is)
    (case kk_Throw_shown => k_is)
    (case a_Wait_shown => k_is)
    (case i_Wait_shown => k_is)
    (case l_Wait_shown => k_is)
    (case cc_Wait_shown => k_is)
    (case kk_Wait_shown => k_is)
    (case a_list_shown => k_is)
    (case l_list_shown => k_is)
    (case cc_list_shown => k_is)
    (case kk_list_shown => k_is)
    (case a_bracketed => k_is)
    (case l_bracketed => k_is)
    (case cc_bracketed => k_is)
    (case kk_bracketed => k_is)
    (case a_If_shown => k_is)
    (case i_If_shown => k_is)
    (case l_If_shown => k_is)
    (case cc_If_shown => k_is)
    (case kk_If_shown => k_is)
    (case a_Either_shown => k_is)
    (case i_Either_shown => k_is)
    (case l_Either_shown => k_is)
    (case cc_Either_shown => k_is)
    (case kk_Either_shown => k_is)
    (case a_Try_shown => k_is)
    (case i_Try_shown => k_is)
    (case l_Try_shown => k_is)
    (case cc_Try_shown => k_is)
    (case kk_Try_shown => k_is)
    (case a_Part_shown => k_is)
    (case i_Part_shown => k_is)
    (case l_Part_shown => k_is)
    (case cc_Part_shown => k_is)
    (case kk_Part_shown => k_is)
    (case a_Part_long => k_is)
    (case i_Part_long => k_is)
    (case l_Part_long => k_is)
    (case cc_Part_long => k_is)
    (case kk_Part_long => k_is)
    (case a_z_whole => k_is)
    (case l_z_whole => k_is)
    (case cc_z_whole => k_is)
    (case kk_z_whole => k_is)
    (case a_z_name => k_is)
    (case l_z_name => k_is)
    (case cc_z_name => k_is)
    (case kk_z_name => k_is)
    (case a_z_slot => k_is)
    (case l_z_slot => k_is)
    (case cc_z_slot => k_is)
    (case kk_z_slot => k_is)
    (case a_z_number => k_is)
    (case l_z_number => k_is)
    (case cc_z_number => k_is)
    (case kk_z_number => k_is)
    (case a_z_plain_pair => k_is)
    (case l_z_plain_pair => k_is)
    (case cc_z_plain_pair => k_is)
    (case kk_z_plain_pair => k_is)
    (case a_z_plain_right => k_is)
    (case l_z_plain_right => k_is)
    (case cc_z_plain_right => k_is)
    (case kk_z_plain_right => k_is)
    (case a_z_shows => k_is)
    (case l_z_shows => k_is)
    (case cc_z_shows => k_is)
    (case kk_z_shows => k_is)
    (case a_z_side => k_is)
    (case l_z_side => k_is)
    (case cc_z_side => k_is)
    (case kk_z_side => k_is)
    (case a_z_sided => k_is)
    (case l_z_sided => k_is)
    (case cc_z_sided => k_is)
    (case kk_z_sided => k_is)
    (case a_law => k_is)
    (case l_law => k_is)
    (case cc_law => k_is)
    (case kk_law => k_is)
    (case b_bool => k_is)
    (case b_int => k_is)
    (case b_isinstance => k_is)
    (case b_len => k_is)
    (case b_list => k_is)
    (case b_range => k_is)
    (case b_str => k_is)
    (case b_sum => k_is)
    (case pg_Let => k_is)
    (case hd_Let => k_is)
    (case po_Let => k_is)
    (case sa_Let => k_is)
    (case mk_Let => k_is)
    (case kc_Let => k_is)
    (case pg_Reckon => k_is)
    (case hd_Reckon => k_is)
    (case po_Reckon => k_is)
    (case sa_Reckon => k_is)
    (case mk_Reckon => k_is)
    (case kc_Reckon => k_is)
    (case pg_Take => k_is)
    (case hd_Take => k_is)
    (case po_Take => k_is)
    (case sa_Take => k_is)
    (case mk_Take => k_is)
    (case kc_Take => k_is)
    (case pg_Put => k_is)
    (case hd_Put => k_is)
    (case po_Put => k_is)
    (case sa_Put => k_is)
    (case mk_Put => k_is)
    (case kc_Put => k_is)
    (case pg_If => k_is)
    (case hd_If => k_is)
    (case po_If => k_is)
    (case sa_If => k_is)
    (case mk_If => k_is)
    (case kc_If => k_is)
    (case pg_Either => k_is)
    (case hd_Either => k_is)
    (case po_Either => k_is)
    (case sa_Either => k_is)
    (case mk_Either => k_is)
    (case kc_Either => k_is)
    (case pg_Try => k_is)
    (case hd_Try => k_is)
    (case po_Try => k_is)
    (case sa_Try => k_is)
    (case mk_Try => k_is)
    (case kc_Try => k_is)
    (case pg_Throw => k_is)
    (case hd_Throw => k_is)
    (case po_Throw => k_is)
    (case sa_Throw => k_is)
    (case mk_Throw => k_is)
    (case kc_Throw => k_is)
    (case pg_Wait => k_is)
    (case hd_Wait => k_is)
    (case po_Wait => k_is)
    (case sa_Wait => k_is)
    (case mk_Wait => k_is)
    (case kc_Wait => k_is)
    (case in_Wait => k_is)
    (case pg_Part => k_is)
    (case hd_Part => k_is)
    (case po_Part => k_is)
    (case sa_Part => k_is)
    (case mk_Part => k_is)
    (case kc_Part => k_is)
    (case in_Part => k_is)
    (case kgs => k_is)
    (case ktk => k_is)
    (case kcc_Let => k_is)
    (case kmo_Let => k_is)
    (case nslot_Let => k_is)
    (case nnumber_Let => k_is)
    (case kcc_Part => k_is)
    (case kmo_Part => k_is)
    (case kit_Part_Part => kit_is)
    (case kit_Let_Part => kit_is)
    (case kit_Let_Let => kit_is)
    (case kit_Let_Reckon => kit_is)
    (case kit_Let_Take => kit_is)
    (case kit_Let_Put => kit_is)
    (case kit_Let_If => kit_is)
    (case kit_Let_Either => kit_is)
    (case kit_Let_Try => kit_is)
    (case kit_Let_Throw => kit_is)
    (case kit_Let_Wait => kit_is)
    (case kcc_Reckon => k_is)
    (case kmo_Reckon => k_is)
    (case nword_Reckon => k_is)
    (case nslot_Reckon => k_is)
    (case none_Reckon => k_is)
    (case nother_Reckon => k_is)
    (case kit_Reckon_Part => kit_is)
    (case kit_Reckon_Let => kit_is)
    (case kit_Reckon_Reckon => kit_is)
    (case kit_Reckon_Take => kit_is)
    (case kit_Reckon_Put => kit_is)
    (case kit_Reckon_If => kit_is)
    (case kit_Reckon_Either => kit_is)
    (case kit_Reckon_Try => kit_is)
    (case kit_Reckon_Throw => kit_is)
    (case kit_Reckon_Wait => kit_is)
    (case kcc_Take => k_is)
    (case kmo_Take => k_is)
    (case nslot_Take => k_is)
    (case nplace_Take => k_is)
    (case kit_Take_Part => kit_is)
    (case kit_Take_Let => kit_is)
    (case kit_Take_Reckon => kit_is)
    (case kit_Take_Take => kit_is)
    (case kit_Take_Put => kit_is)
    (case kit_Take_If => kit_is)
    (case kit_Take_Either => kit_is)
    (case kit_Take_Try => kit_is)
    (case kit_Take_Throw => kit_is)
    (case kit_Take_Wait => kit_is)
    (case kcc_Put => k_is)
    (case kmo_Put => k_is)
    (case nplace_Put => k_is)
    (case nslot_Put => k_is)
    (case kit_Put_Part => kit_is)
    (case kit_Put_Let => kit_is)
    (case kit_Put_Reckon => kit_is)
    (case kit_Put_Take => kit_is)
    (case kit_Put_Put => kit_is)
    (case kit_Put_If => kit_is)
    (case kit_Put_Either => kit_is)
    (case kit_Put_Try => kit_is)
    (case kit_Put_Throw => kit_is)
    (case kit_Put_Wait => kit_is)
    (case kcc_If => k_is)
    (case kmo_If => k_is)
    (case nslot_If => k_is)
    (case nparts_If => k_is)
    (case nothers_If => k_is)
    (case kit_If_Part => kit_is)
    (case kit_If_Let => kit_is)
    (case kit_If_Reckon => kit_is)
    (case kit_If_Take => kit_is)
    (case kit_If_Put => kit_is)
    (case kit_If_If => kit_is)
    (case kit_If_Either => kit_is)
    (case kit_If_Try => kit_is)
    (case kit_If_Throw => kit_is)
    (case kit_If_Wait => kit_is)
    (case kcc_Either => k_is)
    (case kmo_Either => k_is)
    (case nparts_Either => k_is)
    (case nothers_Either => k_is)
    (case kit_Either_Part => kit_is)
    (case kit_Either_Let => kit_is)
    (case kit_Either_Reckon => kit_is)
    (case kit_Either_Take => kit_is)
    (case kit_Either_Put => kit_is)
    (case kit_Either_If => kit_is)
    (case kit_Either_Either => kit_is)
    (case kit_Either_Try => kit_is)
    (case kit_Either_Throw => kit_is)
    (case kit_Either_Wait => kit_is)
    (case kcc_Try => k_is)
    (case kmo_Try => k_is)
    (case nparts_Try => k_is)
    (case nname_Try => k_is)
    (case nslot_Try => k_is)
    (case nothers_Try => k_is)
    (case kit_Try_Part => kit_is)
    (case kit_Try_Let => kit_is)
    (case kit_Try_Reckon => kit_is)
    (case kit_Try_Take => kit_is)
    (case kit_Try_Put => kit_is)
    (case kit_Try_If => kit_is)
    (case kit_Try_Either => kit_is)
    (case kit_Try_Try => kit_is)
    (case kit_Try_Throw => kit_is)
    (case kit_Try_Wait => kit_is)
    (case kcc_Throw => k_is)
    (case kmo_Throw => k_is)
    (case nname_Throw => k_is)
    (case nslot_Throw => k_is)
    (case kit_Throw_Part => kit_is)
    (case kit_Throw_Let => kit_is)
    (case kit_Throw_Reckon => kit_is)
    (case kit_Throw_Take => kit_is)
    (case kit_Throw_Put => kit_is)
    (case kit_Throw_If => kit_is)
    (case kit_Throw_Either => kit_is)
    (case kit_Throw_Try => kit_is)
    (case kit_Throw_Throw => kit_is)
    (case kit_Throw_Wait => kit_is)
    (case kcc_Wait => k_is)
    (case kmo_Wait => k_is)
    (case kit_Wait_Part => kit_is)
    (case kit_Wait_Let => kit_is)
    (case kit_Wait_Reckon => kit_is)
    (case kit_Wait_Take => kit_is)
    (case kit_Wait_Put => kit_is)
    (case kit_Wait_If => kit_is)
    (case kit_Wait_Either => kit_is)
    (case kit_Wait_Try => kit_is)
    (case kit_Wait_Throw => kit_is)
    (case kit_Wait_Wait => kit_is)
#print axioms PySem.Challenge.cw_retryhall_k04_parts_shown_and_long_holds

