import PyProof.Rows.All
import Wide.All
import OpenK.AllK
import Wide.FinOn
import HandS.ForMost
import HandS.ExcInit
import HandS.IsInst
import HandS.TryOnly
import HandS.WordsExc
import KE.KDictCopyH
import HandS.Lambda
import HandS.CallSlots
import HandS.Deep
import HandS.ExcField
import HandS.ExcIs
import KE.KExcIs
import HandS.TupSets
import HandS.SortOrd
import HandS.Defaults
import HandS.MakeKw
import HandS.StrMore
import HandS.SortInts
import HandS.MakeKwOnly
import HandS.Style
import HandS.Steps
import HandS.TupMul
import HandS.Set
import PyProof.Tail
import PyProof.FactsAll.set_1
import PyProof.FactsAll.subtypes_5
import HandS.FStr
import HandS.RaiseMore
import KE.KCallOwn
import HandS.Iter
import HandS.Zip
import KE.GoesZip
import KE.GoesMore
import KE.KDictPairs
import KE.KDictZip
import KE.GoesEnumKw
import PyProof.Rows.StrStep
import KE.KNestM
import HandS.EndTab
import KE.KEqDict
import KE.KDictKeyed
import HandS.List
import HandS.Conv
import KE.KDictWalk
import KE.KDictLaws
import HandS.OwnEq
import HandS.Nested
import KE.GoesCell
import KE.DataMinMax
import HandS.SortKw
import HandS.RevRange
import PySem.Challenge.RW_foldbough_k05_all_rows_that_go_together
set_option Elab.async false
namespace PySem.W.Fast
theorem tw15353411910848406677:True:=⟨⟩
theorem tw15402475051303874976:True:=⟨⟩
theorem tw9487292146056934284:True:=⟨⟩
theorem tw13567837639044657168:True:=⟨⟩
theorem tw14190312055624679626:True:=⟨⟩
theorem tw16631592922447461955:True:=⟨⟩
theorem tw1356547925250184152:True:=⟨⟩
theorem tw5398800806321398782:True:=⟨⟩
theorem tw10166284083706171219:True:=⟨⟩
theorem tw7374195433576804619:True:=⟨⟩
theorem tw14860303737181455804:True:=⟨⟩
theorem tw14988380971130931546:True:=⟨⟩
theorem tw4768492781845539925:True:=⟨⟩
theorem tw13339123461914593151:True:=⟨⟩
theorem tw2277459480741196685:True:=⟨⟩
theorem tw9976344780962957852:True:=⟨⟩
theorem tw5014618531707541526:True:=⟨⟩
theorem tw15091951255667934217:True:=⟨⟩
theorem tw1364020807728377533:True:=⟨⟩
theorem tw6860851603886399179:True:=⟨⟩
theorem tw15434541477363937663:True:=⟨⟩
theorem tw13834828001584046378:True:=⟨⟩
theorem tw1377960097794450256:True:=⟨⟩
theorem tw2242278418358724067:True:=⟨⟩
theorem tw7465380625072181204:True:=⟨⟩
theorem tw15401623247602517733:True:=⟨⟩
theorem tw6789207419182167826:True:=⟨⟩
theorem tw14429037682125992441:True:=⟨⟩
theorem tw13738212061448133139:True:=⟨⟩
theorem tw1259691315571402415:True:=⟨⟩
theorem tw9888546766949965130:True:=⟨⟩
theorem tw5770450252032536800:True:=⟨⟩
theorem tw4919500854295465753:True:=⟨⟩
theorem tw17207360893263906688:True:=⟨⟩
theorem tw4108207910846858241:True:=⟨⟩
theorem tw1515581668167112793:True:=⟨⟩
theorem tw16402181504643221163:True:=⟨⟩
theorem tw7080736626701522217:True:=⟨⟩
theorem tw18090211583554461050:True:=⟨⟩
theorem tw2374053664901193089:True:=⟨⟩
theorem tw10822229420597851851:True:=⟨⟩
theorem tw7385428189581467392:True:=⟨⟩
theorem tw13093447327151289770:True:=⟨⟩
theorem tw12077844715368204324:True:=⟨⟩
theorem tw13957564846577053590:True:=⟨⟩
theorem tw2261658064275758569:True:=⟨⟩
theorem tw13906854941275669193:True:=⟨⟩
theorem tw6689747639953235306:True:=⟨⟩
theorem tw5186943021758810953:True:=⟨⟩
theorem tw6271939491635743783:True:=⟨⟩
theorem tw1891972998706975756:True:=⟨⟩
theorem tw14529991965528615574:True:=⟨⟩
theorem tw8043712371393398900:True:=⟨⟩
theorem tw97645717689064802:True:=⟨⟩
theorem tw2854420630404469174:True:=⟨⟩
theorem tw1270717755292408902:True:=⟨⟩
theorem tw18394483681745250547:True:=⟨⟩
theorem tw11327298537553380431:True:=⟨⟩
theorem tw4368034869470349080:True:=⟨⟩
theorem tw2352274106254461346:True:=⟨⟩
theorem tw16056477672713505074:True:=⟨⟩
theorem tw10457917090737215025:True:=⟨⟩
theorem tw12393435228033146845:True:=⟨⟩
theorem tw18088359305533946657:True:=⟨⟩
theorem tw13409128624633255100:True:=⟨⟩
theorem tw4416527236915578024:True:=⟨⟩
theorem tw15439277009470722773:True:=⟨⟩
theorem tw15098590565462759326:True:=⟨⟩
theorem tw8536381711163120753:True:=⟨⟩
theorem tw12278162090939855061:True:=⟨⟩
theorem tw14726721109293854789:True:=⟨⟩
theorem tw7857415107305554595:True:=⟨⟩
theorem tw11141504160291680477:True:=⟨⟩
theorem tw10311689871246038777:True:=⟨⟩
theorem tw3727706152100025360:True:=⟨⟩
theorem tw8158768121405805000:True:=⟨⟩
theorem tw11940234441508218344:True:=⟨⟩
theorem tw12234363878498293451:True:=⟨⟩
theorem tw10467270348155560980:True:=⟨⟩
theorem tw13258451922584924784:True:=⟨⟩
theorem tw6030544491993873870:True:=⟨⟩
theorem tw5125744434472366690:True:=⟨⟩
theorem tw17625707655349097906:True:=⟨⟩
theorem tw8682710775872180804:True:=⟨⟩
theorem tw15486962263532545747:True:=⟨⟩
theorem tw9474680356766799184:True:=⟨⟩
theorem tw7206869052732625024:True:=⟨⟩
theorem tw6865366985041516895:True:=⟨⟩
theorem tw3770445002307792013:True:=⟨⟩
theorem tw3473275788216593113:True:=⟨⟩
theorem tw13853990605547703033:True:=⟨⟩
theorem tw5968805534048349372:True:=⟨⟩
theorem tw6013429096684002833:True:=⟨⟩
theorem tw4170210519478284901:True:=⟨⟩
theorem tw448916538028228167:True:=⟨⟩
theorem tw8011931774344144468:True:=⟨⟩
theorem tw14471219313366330675:True:=⟨⟩
theorem tw8925708564956487583:True:=⟨⟩
theorem tw16935466339541590140:True:=⟨⟩
theorem tw2574229964907347352:True:=⟨⟩
theorem tw14416313889755821632:True:=⟨⟩
theorem tw11189827629853750948:True:=⟨⟩
theorem tw695548379762714685:True:=⟨⟩
theorem tw16472618300494312234:True:=⟨⟩
theorem tw3337932389828658309:True:=⟨⟩
theorem tw7649326363391341822:True:=⟨⟩
theorem tw15508743471950095233:True:=⟨⟩
theorem tw9656472400422577688:True:=⟨⟩
theorem tw15885155880734990451:True:=⟨⟩
theorem tw16108565890853222237:True:=⟨⟩
theorem tw17941697429134341831:True:=⟨⟩
theorem tw12608234687395027001:True:=⟨⟩
theorem tw7589287792595059996:True:=⟨⟩
theorem tw15078574935490331309:True:=⟨⟩
theorem tw17157256236033220658:True:=⟨⟩
theorem tw9123343623881484569:True:=⟨⟩
theorem tw16590945332910766334:True:=⟨⟩
theorem tw16067286229810574772:True:=⟨⟩
theorem tw5373224793050208001:True:=⟨⟩
theorem tw1486520379084457988:True:=⟨⟩
theorem tw2070043155032141570:True:=⟨⟩
theorem tw5094335409402043457:True:=⟨⟩
theorem tw12571216108388800163:True:=⟨⟩
theorem tw7143268761198875931:True:=⟨⟩
theorem tw17319620091478071858:True:=⟨⟩
theorem tw11641085257961694048:True:=⟨⟩
theorem tw17587253580636334748:True:=⟨⟩
theorem tw15932149341018722125:True:=⟨⟩
theorem tw17769508592743765039:True:=⟨⟩
theorem tw4573238704581933215:True:=⟨⟩
theorem tw16147456088682505909:True:=⟨⟩
theorem tw3871146007452676844:True:=⟨⟩
theorem tw4666985297553040782:True:=⟨⟩
theorem tw1342727842708585539:True:=⟨⟩
theorem tw3959225613561082772:True:=⟨⟩
theorem tw4453077720515378098:True:=⟨⟩
theorem tw6161921871617281352:True:=⟨⟩
theorem tw17879567890369308711:True:=⟨⟩
theorem tw1352815249496449537:True:=⟨⟩
theorem tw5497643905449066162:True:=⟨⟩
theorem tw13205851410366984005:True:=⟨⟩
theorem tw16319385505453810144:True:=⟨⟩
theorem tw18359783353641605922:True:=⟨⟩
theorem tw15414298345992065831:True:=⟨⟩
theorem tw11927540270246228889:True:=⟨⟩
theorem tw17814300279785216584:True:=⟨⟩
theorem tw3045962274903084269:True:=⟨⟩
theorem tw4636654214159893204:True:=⟨⟩
theorem tw13356088879552396844:True:=⟨⟩
theorem tw11640412189472519666:True:=⟨⟩
theorem tw1976828961453511429:True:=⟨⟩
theorem tw17843862324750249029:True:=⟨⟩
theorem tw1970343369618406519:True:=⟨⟩
theorem tw17662024404457192397:True:=⟨⟩
theorem tw8534683066111056068:True:=⟨⟩
theorem tw8700523558962632562:True:=⟨⟩
theorem tw12192977369839167344:True:=⟨⟩
theorem tw712430803710184756:True:=⟨⟩
theorem tw11225241251770852045:True:=⟨⟩
theorem tw12764101108439460305:True:=⟨⟩
theorem tw16169830532715070392:True:=⟨⟩
theorem tw5931746887928569071:True:=⟨⟩
theorem tw15035427260447670885:True:=⟨⟩
theorem tw10086750738806437066:True:=⟨⟩
theorem tw15891670056438284563:True:=⟨⟩
theorem tw4769552251559047922:True:=⟨⟩
theorem tw15195875612640226737:True:=⟨⟩
theorem tw13439068013940220693:True:=⟨⟩
theorem tw10144477495151777228:True:=⟨⟩
theorem tw17140796387449530910:True:=⟨⟩
theorem tw8264455184721448821:True:=⟨⟩
theorem tw5187115963026547767:True:=⟨⟩
theorem tw4794397019108581594:True:=⟨⟩
theorem tw7542087390345682221:True:=⟨⟩
theorem tw14260240021938151741:True:=⟨⟩
theorem tw18217425806720028689:True:=⟨⟩
theorem tw10186398462106390334:True:=⟨⟩
theorem tw14912399644272070095:True:=⟨⟩
theorem tw7360251095123082009:True:=⟨⟩
theorem tw12885373041402821540:True:=⟨⟩
theorem tw14725651499641130565:True:=⟨⟩
theorem tw4370357246505724748:True:=⟨⟩
theorem tw2576387475873604116:True:=⟨⟩
theorem tw4063460864939373666:True:=⟨⟩
theorem tw5118473902576791284:True:=⟨⟩
theorem tw4752681165573519977:True:=⟨⟩
theorem tw16965307658893490354:True:=⟨⟩
theorem tw14137757299618816900:True:=⟨⟩
theorem tw14919956833102067107:True:=⟨⟩
theorem tw3784166513254134295:True:=⟨⟩
theorem tw2752950393178721548:True:=⟨⟩
theorem tw15435385780030151182:True:=⟨⟩
theorem tw4848153180507427121:True:=⟨⟩
theorem tw1653742740485004975:True:=⟨⟩
theorem tw9277558902257904836:True:=⟨⟩
theorem tw12971734207252573329:True:=⟨⟩
theorem tw12606317903777510284:True:=⟨⟩
theorem tw5746819397375646615:True:=⟨⟩
theorem tw9048280815183482771:True:=⟨⟩
theorem tw7113289653580863139:True:=⟨⟩
theorem tw8206413589870016100:True:=⟨⟩
theorem tw15561108669368542918:True:=⟨⟩
theorem tw1797039334595012057:True:=⟨⟩
theorem tw4328839030703928038:True:=⟨⟩
theorem tw7213730940446815678:True:=⟨⟩
theorem tw5005423805896269841:True:=⟨⟩
theorem tw11165637451627248185:True:=⟨⟩
theorem tw10876968430874143081:True:=⟨⟩
theorem tw13050763845516860213:True:=⟨⟩
theorem tw17313795774525481545:True:=⟨⟩
theorem tw3965637688379692172:True:=⟨⟩
theorem tw6283801930875563260:True:=⟨⟩
theorem tw2722335565599658057:True:=⟨⟩
theorem tw4803105430400825348:True:=⟨⟩
theorem tw2586386932933763651:True:=⟨⟩
theorem tw16811498726481074135:True:=⟨⟩
theorem tw18244032483855934292:True:=⟨⟩
theorem tw1746360067588203504:True:=⟨⟩
theorem tw4794911913721172103:True:=⟨⟩
theorem tw13512350711188513300:True:=⟨⟩
theorem tw3688813678203844281:True:=⟨⟩
theorem tw2834825619066396997:True:=⟨⟩
theorem tw13331685402066386722:True:=⟨⟩
theorem tw10363633390779751879:True:=⟨⟩
theorem tw6362233113855080112:True:=⟨⟩
theorem tw9260481115177360059:True:=⟨⟩
theorem tw5743813942362451900:True:=⟨⟩
theorem tw17267815147435265626:True:=⟨⟩
theorem tw1029258391231026080:True:=⟨⟩
theorem tw3858986667075815838:True:=⟨⟩
theorem tw16632368717810114067:True:=⟨⟩
theorem tw18053461188303234882:True:=⟨⟩
theorem tw6166473274908394671:True:=⟨⟩
theorem tw16429768764462511818:True:=⟨⟩
theorem tw8365362428050064518:True:=⟨⟩
theorem tw9634849689208283538:True:=⟨⟩
theorem tw6736113779517486728:True:=⟨⟩
theorem tw2736806544103484945:True:=⟨⟩
theorem tw5104300250130520234:True:=⟨⟩
theorem tw13833268702477808120:True:=⟨⟩
theorem tw13453211553173208531:True:=⟨⟩
theorem tw11739959522708719087:True:=⟨⟩
theorem tw14946973030461337075:True:=⟨⟩
theorem tw16730275093404960680:True:=⟨⟩
theorem tw14126848700684401176:True:=⟨⟩
theorem tw6258830555603374229:True:=⟨⟩
theorem tw12314006113027042155:True:=⟨⟩
theorem tw2460453814453088216:True:=⟨⟩
theorem tw10879464868496965093:True:=⟨⟩
theorem tw3631692019713877154:True:=⟨⟩
theorem tw17802620788514496278:True:=⟨⟩
theorem tw17183554114749646487:True:=⟨⟩
theorem tw2937382828968636439:True:=⟨⟩
theorem tw8975528191911728986:True:=⟨⟩
theorem tw3741160054086297569:True:=⟨⟩
theorem tw7811009032711901350:True:=⟨⟩
theorem tw2226650005388297250:True:=⟨⟩
theorem tw11988288145993784585:True:=⟨⟩
theorem tw6900043314571896522:True:=⟨⟩
theorem tw572301278720881785:True:=⟨⟩
theorem tw13693944988766211512:True:=⟨⟩
theorem tw16535517180634225140:True:=⟨⟩
theorem tw14770915638683957432:True:=⟨⟩
theorem tw5290672894859276470:True:=⟨⟩
theorem tw617400643376616046:True:=⟨⟩
theorem tw12343430520379069943:True:=⟨⟩
theorem tw5413814528045528687:True:=⟨⟩
theorem tw6347961659172080951:True:=⟨⟩
theorem tw11280717635399722554:True:=⟨⟩
theorem tw10612862993079755357:True:=⟨⟩
theorem tw13905789007172662756:True:=⟨⟩
theorem tw16379425588386926305:True:=⟨⟩
theorem tw11403990998920408608:True:=⟨⟩
theorem tw12006162224054970574:True:=⟨⟩
theorem tw4381067213318005090:True:=⟨⟩
theorem tw12395231349915193907:True:=⟨⟩
theorem tw16111978139896170091:True:=⟨⟩
theorem tw17004727872177853978:True:=⟨⟩
theorem tw7242950133852401340:True:=⟨⟩
theorem tw8721060713476081730:True:=⟨⟩
theorem tw199069588926432606:True:=⟨⟩
theorem tw2334671897979983931:True:=⟨⟩
theorem tw17774039445796174180:True:=⟨⟩
theorem tw6861798706042799451:True:=⟨⟩
theorem tw2752684202763490893:True:=⟨⟩
theorem tw12458642862606304395:True:=⟨⟩
theorem tw17784881162185745368:True:=⟨⟩
theorem tw10238740276509575814:True:=⟨⟩
theorem tw2405559639750554974:True:=⟨⟩
theorem tw16191005179509305201:True:=⟨⟩
theorem tw3184548193913795601:True:=⟨⟩
theorem tw12367526984953333751:True:=⟨⟩
theorem tw11797310975978243421:True:=⟨⟩
theorem tw8248205901686002822:True:=⟨⟩
theorem tw17329526029651654991:True:=⟨⟩
theorem tw5341332501903564774:True:=⟨⟩
theorem tw11417529183444499543:True:=⟨⟩
theorem tw12046838381919724104:True:=⟨⟩
theorem tw14373186973188156012:True:=⟨⟩
theorem tw12643382180320984716:True:=⟨⟩
theorem tw1109344251251882771:True:=⟨⟩
theorem tw16515193008354947349:True:=⟨⟩
theorem tw8391648659099464926:True:=⟨⟩
theorem tw3255184587704537070:True:=⟨⟩
theorem tw17970717217591416589:True:=⟨⟩
theorem tw12101282587356103541:True:=⟨⟩
theorem tw12846795876393918117:True:=⟨⟩
theorem tw18164005314982264787:True:=⟨⟩
theorem tw11374908398087736044:True:=⟨⟩
theorem tw11164160177492993147:True:=⟨⟩
theorem tw703987445210604735:True:=⟨⟩
theorem tw12938473536824358165:True:=⟨⟩
theorem tw12454683035100413023:True:=⟨⟩
theorem tw5549746826662782999:True:=⟨⟩
theorem tw6953696591910729785:True:=⟨⟩
theorem tw17318531401423440716:True:=⟨⟩
theorem tw15134407617749723794:True:=⟨⟩
theorem tw15696124811602059256:True:=⟨⟩
theorem tw2671825852539471340:True:=⟨⟩
theorem tw381467397772562467:True:=⟨⟩
theorem tw6960970871117334935:True:=⟨⟩
theorem tw13678753915021611980:True:=⟨⟩
theorem tw3271438848579598335:True:=⟨⟩
theorem tw5895248175085902731:True:=⟨⟩
theorem tw16498618694847322779:True:=⟨⟩
theorem tw17247285341506426476:True:=⟨⟩
theorem tw2079357231084287471:True:=⟨⟩
theorem tw10507605132601209790:True:=⟨⟩
theorem tw14851757549477137371:True:=⟨⟩
theorem tw10311433599952415733:True:=⟨⟩
theorem tw15548358417918427405:True:=⟨⟩
theorem tw17350424286728420705:True:=⟨⟩
theorem tw17948908936486607083:True:=⟨⟩
theorem tw11365845089096894373:True:=⟨⟩
theorem tw2691114709169803742:True:=⟨⟩
theorem tw2942361224567906661:True:=⟨⟩
theorem tw9141342993154976782:True:=⟨⟩
theorem tw16759001667022814796:True:=⟨⟩
theorem tw7513307664754623670:True:=⟨⟩
theorem tw18324385435076512530:True:=⟨⟩
theorem tw7228352104829197829:True:=⟨⟩
theorem tw14098487396160160433:True:=⟨⟩
theorem tw9091916123402882648:True:=⟨⟩
theorem tw16381094859611114610:True:=⟨⟩
theorem tw12462000797756193309:True:=⟨⟩
theorem tw14020833890451600402:True:=⟨⟩
theorem tw8496684526623330670:True:=⟨⟩
theorem tw8964828729741225112:True:=⟨⟩
theorem tw7419929360707787565:True:=⟨⟩
theorem tw12817780453395015329:True:=⟨⟩
theorem tw7385499964269902311:True:=⟨⟩
theorem tw17962599830098066272:True:=⟨⟩
theorem tw7993627037285102922:True:=⟨⟩
theorem tw182032737776267397:True:=⟨⟩
theorem tw8010184450061110412:True:=⟨⟩
theorem tw10822161433304536214:True:=⟨⟩
theorem tw4558800923900386730:True:=⟨⟩
theorem tw16344109904104700371:True:=⟨⟩
theorem tw2317438931719039979:True:=⟨⟩
theorem tw3613932098712633277:True:=⟨⟩
theorem tw11562597740807803771:True:=⟨⟩
theorem tw11875531462144392294:True:=⟨⟩
theorem tw3266503459577860177:True:=⟨⟩
theorem tw14244118665079591640:True:=⟨⟩
theorem tw12750734151075656079:True:=⟨⟩
theorem tw4027795852137132999:True:=⟨⟩
theorem tw16842294356388393481:True:=⟨⟩
theorem tw12489216082926824213:True:=⟨⟩
theorem tw6362602254762097028:True:=⟨⟩
theorem tw12837216265762053356:True:=⟨⟩
theorem tw7907632418430712300:True:=⟨⟩
theorem tw2668775088734139398:True:=⟨⟩
theorem tw17107017351620270602:True:=⟨⟩
theorem tw4253524378876147530:True:=⟨⟩
theorem tw18341028139582781580:True:=⟨⟩
theorem tw3642200472752489376:True:=⟨⟩
theorem tw8099322342781636026:True:=⟨⟩
theorem tw11113074325888372033:True:=⟨⟩
theorem tw8418644906074971319:True:=⟨⟩
theorem tw4096424781114447253:True:=⟨⟩
theorem tw1816454676403263501:True:=⟨⟩
theorem tw12608060308323449261:True:=⟨⟩
theorem tw2783268546226253490:True:=⟨⟩
theorem tw1639732814597367229:True:=⟨⟩
theorem tw11501617251936279538:True:=⟨⟩
theorem tw8673743076785999862:True:=⟨⟩
theorem tw1008031893686055293:True:=⟨⟩
theorem tw14859671313066222867:True:=⟨⟩
theorem tw17133433741832939860:True:=⟨⟩
theorem tw10498300456595677663:True:=⟨⟩
theorem tw9929689258698716273:True:=⟨⟩
theorem tw14644042280104356824:True:=⟨⟩
theorem tw1577339615321247086:True:=⟨⟩
theorem tw17069809636380876109:True:=⟨⟩
theorem tw17470069050018111063:True:=⟨⟩
theorem tw16900895731002969560:True:=⟨⟩
theorem tw2110106508423657870:True:=⟨⟩
theorem tw17993595406956818432:True:=⟨⟩
theorem tw237286253029375937:True:=⟨⟩
theorem tw70571437706525697:True:=⟨⟩
theorem tw9242636742894474140:True:=⟨⟩
theorem tw15912894652867004309:True:=⟨⟩
theorem tw1491287520163716414:True:=⟨⟩
theorem tw18306925501348451143:True:=⟨⟩
theorem tw6608594295786560114:True:=⟨⟩
theorem tw2438071856741490565:True:=⟨⟩
theorem tw4400775943989042973:True:=⟨⟩
theorem tw4162589173695087192:True:=⟨⟩
theorem tw14433016075168659550:True:=⟨⟩
theorem tw4404365713731855773:True:=⟨⟩
theorem tw14689611552830592605:True:=⟨⟩
theorem tw15760782603626992946:True:=⟨⟩
theorem tw6114595508939072911:True:=⟨⟩
theorem tw9481561165125127590:True:=⟨⟩
theorem tw1513475473803870574:True:=⟨⟩
theorem tw11547583423282797124:True:=⟨⟩
theorem tw16010943219242082044:True:=⟨⟩
theorem tw13231517163844036293:True:=⟨⟩
theorem tw13083338986204725708:True:=⟨⟩
theorem tw16216878879472660127:True:=⟨⟩
theorem tw14071510372196456157:True:=⟨⟩
theorem tw11111020411053796040:True:=⟨⟩
theorem tw4835037130090330122:True:=⟨⟩
theorem tw1230559007911518029:True:=⟨⟩
theorem tw14294021211581767929:True:=⟨⟩
theorem tw12738221334142585471:True:=⟨⟩
theorem tw16092647459466855618:True:=⟨⟩
theorem tw16153681059754050652:True:=⟨⟩
theorem tw3555839182653028983:True:=⟨⟩
theorem tw5982510907787668500:True:=⟨⟩
theorem tw2151657996508931754:True:=⟨⟩
theorem tw944494273793817429:True:=⟨⟩
theorem tw327822759696075285:True:=⟨⟩
theorem tw16555768213310521572:True:=⟨⟩
theorem tw8640837301248968109:True:=⟨⟩
theorem tw15945306521191605083:True:=⟨⟩
theorem tw2735371029729213432:True:=⟨⟩
theorem tw7680954553139544382:True:=⟨⟩
theorem tw17521067307498965051:True:=⟨⟩
theorem tw4221647228177111477:True:=⟨⟩
theorem tw5554792367503452800:True:=⟨⟩
theorem tw12989245199630657622:True:=⟨⟩
theorem tw11328605310024578058:True:=⟨⟩
theorem tw14761456188499271577:True:=⟨⟩
theorem tw2655373195629221417:True:=⟨⟩
theorem tw8262136122840710652:True:=⟨⟩
theorem tw13656225854668445032:True:=⟨⟩
theorem tw15658568639886410880:True:=⟨⟩
theorem tw6874611320252695490:True:=⟨⟩
theorem tw11352786865014856663:True:=⟨⟩
theorem tw4654338470678473522:True:=⟨⟩
theorem tw6660644734927635049:True:=⟨⟩
theorem tw514631315172237008:True:=⟨⟩
theorem tw18427140636196129915:True:=⟨⟩
theorem tw11457595464642982989:True:=⟨⟩
theorem tw12040498248916456024:True:=⟨⟩
theorem tw14344903961200668922:True:=⟨⟩
theorem tw17353256590707347058:True:=⟨⟩
theorem tw17571466196623158768:True:=⟨⟩
theorem tw9037778462112247037:True:=⟨⟩
theorem tw7628011129928531137:True:=⟨⟩
theorem tw10072854237504537971:True:=⟨⟩
theorem tw12407724463048468963:True:=⟨⟩
theorem tw3876815925607422590:True:=⟨⟩
theorem tw12268546173223110772:True:=⟨⟩
theorem tw1365441631798254850:True:=⟨⟩
theorem tw11322394478325695544:True:=⟨⟩
theorem tw9564526349356463137:True:=⟨⟩
theorem tw12898983652707480884:True:=⟨⟩
theorem tw6910613048086385324:True:=⟨⟩
theorem tw12881926847485229275:True:=⟨⟩
theorem tw14077813522558693591:True:=⟨⟩
theorem tw4729089199413329190:True:=⟨⟩
theorem tw18208673413951685795:True:=⟨⟩
theorem tw5846951504951224052:True:=⟨⟩
theorem tw8650482899079652202:True:=⟨⟩
theorem tw5789088059736252076:True:=⟨⟩
theorem tw16982414920234820980:True:=⟨⟩
theorem tw6897450091076171809:True:=⟨⟩
theorem tw4867251196835991397:True:=⟨⟩
theorem tw3437958170484673177:True:=⟨⟩
theorem tw17065267836800426092:True:=⟨⟩
theorem tw10661862393855442932:True:=⟨⟩
theorem tw3038792315198128292:True:=⟨⟩
theorem tw7697145493626949212:True:=⟨⟩
theorem tw15722613650836064659:True:=⟨⟩
theorem tw13478585608862020479:True:=⟨⟩
theorem tw15185433473551548076:True:=⟨⟩
theorem tw6320810517144623545:True:=⟨⟩
theorem tw15681733437228978606:True:=⟨⟩
theorem tw13545529835834109185:True:=⟨⟩
theorem tw1189998908421716809:True:=⟨⟩
theorem tw1503251537702870051:True:=⟨⟩
theorem tw4646680391169513539:True:=⟨⟩
theorem tw13508371221237453635:True:=⟨⟩
theorem tw9757010368181451634:True:=⟨⟩
theorem tw6738618958849946092:True:=⟨⟩
theorem tw14965149610770072648:True:=⟨⟩
theorem tw10925538597402966832:True:=⟨⟩
theorem tw15622266387223500396:True:=⟨⟩
theorem tw11676825375211277456:True:=⟨⟩
theorem tw14923710002907166590:True:=⟨⟩
theorem tw4664743646813610913:True:=⟨⟩
theorem tw11957933152928528319:True:=⟨⟩
theorem tw13455356243960294207:True:=⟨⟩
theorem tw2696475297277852403:True:=⟨⟩
theorem tw16758291317325505789:True:=⟨⟩
theorem tw4394953790014484445:True:=⟨⟩
theorem tw15288515704869810595:True:=⟨⟩
theorem tw14212967856681215618:True:=⟨⟩
theorem tw12690303338325933916:True:=⟨⟩
theorem tw11845795848045322915:True:=⟨⟩
theorem tw2615191094277504807:True:=⟨⟩
theorem tw4891126425558487355:True:=⟨⟩
theorem tw6613511461547252599:True:=⟨⟩
theorem tw10421144100512312792:True:=⟨⟩
theorem tw4896895470008753377:True:=⟨⟩
theorem tw11956747078716902947:True:=⟨⟩
theorem tw16452163888681983324:True:=⟨⟩
theorem tw14612576612651165925:True:=⟨⟩
theorem tw2634499172505217232:True:=⟨⟩
theorem tw8811062252154713994:True:=⟨⟩
theorem tw12248322647787761673:True:=⟨⟩
theorem tw15014500004871577180:True:=⟨⟩
theorem tw5061349929514263415:True:=⟨⟩
theorem tw6335793041552307682:True:=⟨⟩
theorem tw12507238604996324367:True:=⟨⟩
theorem tw2941391973300559354:True:=⟨⟩
theorem tw2907315309988853974:True:=⟨⟩
theorem tw5635288781127305649:True:=⟨⟩
theorem tw14387728840894007857:True:=⟨⟩
theorem tw11629074065308503825:True:=⟨⟩
theorem tw9912639895705221449:True:=⟨⟩
theorem tw7836446958456209705:True:=⟨⟩
theorem tw990160901483548156:True:=⟨⟩
theorem tw827794185437974421:True:=⟨⟩
theorem tw13593803916200259094:True:=⟨⟩
theorem tw12431182115252525932:True:=⟨⟩
theorem tw14977587412183500836:True:=⟨⟩
theorem tw1924681185947072487:True:=⟨⟩
theorem tw9371516358892436240:True:=⟨⟩
theorem tw11915797464076093178:True:=⟨⟩
theorem tw13928616519110070619:True:=⟨⟩
theorem tw4577625710673310609:True:=⟨⟩
theorem tw66519310086756091:True:=⟨⟩
theorem tw12214392384585221708:True:=⟨⟩
theorem tw6033372506415669050:True:=⟨⟩
theorem tw9941643249030515783:True:=⟨⟩
theorem tw13124582035187924725:True:=⟨⟩
theorem tw11757985242424838596:True:=⟨⟩
theorem tw16905249877780442350:True:=⟨⟩
theorem tw17916424172894304673:True:=⟨⟩
theorem tw13316922464856175357:True:=⟨⟩
theorem tw188345130522971681:True:=⟨⟩
theorem tw18335558270520262065:True:=⟨⟩
theorem tw12677132328244273811:True:=⟨⟩
theorem tw13279213763658636223:True:=⟨⟩
theorem tw17218653681776650181:True:=⟨⟩
theorem tw719100617391132179:True:=⟨⟩
theorem tw5583103548650228593:True:=⟨⟩
theorem tw10726833424660404324:True:=⟨⟩
theorem tw4200030527757245985:True:=⟨⟩
theorem tw18382396034416628773:True:=⟨⟩
theorem tw4660652311568148918:True:=⟨⟩
theorem tw3742783915655510503:True:=⟨⟩
theorem tw16449955852770143484:True:=⟨⟩
theorem tw6319858914700840833:True:=⟨⟩
theorem tw12987244474090276980:True:=⟨⟩
theorem tw13697269794632476797:True:=⟨⟩
theorem tw8659292382348219469:True:=⟨⟩
theorem tw6875374862648029343:True:=⟨⟩
theorem tw6761931515691231559:True:=⟨⟩
theorem tw17538682485413613088:True:=⟨⟩
theorem tw3025522641545109505:True:=⟨⟩
theorem tw4483216293824732749:True:=⟨⟩
theorem tw13536658096440673114:True:=⟨⟩
theorem tw8252508771487247426:True:=⟨⟩
theorem tw869326478455987768:True:=⟨⟩
theorem tw3807122182394739252:True:=⟨⟩
theorem tw49186979765994041:True:=⟨⟩
theorem tw7911838492214783492:True:=⟨⟩
theorem tw10807169253691663175:True:=⟨⟩
theorem tw13565555786102780555:True:=⟨⟩
theorem tw11756122406355036883:True:=⟨⟩
theorem tw14932347459324435946:True:=⟨⟩
theorem tw13280543756245626269:True:=⟨⟩
theorem tw7473144243366014619:True:=⟨⟩
theorem tw13666775503733795392:True:=⟨⟩
theorem tw9079721501648449178:True:=⟨⟩
theorem tw16199823750188240659:True:=⟨⟩
theorem tw4903013937178337858:True:=⟨⟩
theorem tw13909719995594556144:True:=⟨⟩
theorem tw4427664707169316498:True:=⟨⟩
theorem tw14510993422403892452:True:=⟨⟩
theorem tw10261047951358172137:True:=⟨⟩
theorem tw4757501104010985496:True:=⟨⟩
theorem tw8921975782661847572:True:=⟨⟩
theorem tw10597118624960304862:True:=⟨⟩
theorem tw4241566630518833325:True:=⟨⟩
theorem tw16533196141243533282:True:=⟨⟩
theorem tw3154033974717273699:True:=⟨⟩
theorem tw9989931297440474946:True:=⟨⟩
theorem tw839552194356099318:True:=⟨⟩
theorem tw13994888515343750040:True:=⟨⟩
theorem tw3685077932323072159:True:=⟨⟩
theorem tw9767670414165666203:True:=⟨⟩
theorem tw3560546002600312318:True:=⟨⟩
theorem tw6036450649261289544:True:=⟨⟩
theorem tw11660839698337923812:True:=⟨⟩
theorem tw7374053498163746340:True:=⟨⟩
theorem tw15332730269120646439:True:=⟨⟩
theorem tw2005721598272539405:True:=⟨⟩
theorem tw10842195391239897721:True:=⟨⟩
theorem tw10848292882189645919:True:=⟨⟩
theorem tw2941480215446633857:True:=⟨⟩
theorem tw14460857624468543455:True:=⟨⟩
theorem tw4379597816846117003:True:=⟨⟩
theorem tw5068301922861405588:True:=⟨⟩
theorem tw7156051550466135733:True:=⟨⟩
theorem tw12336801312178293768:True:=⟨⟩
theorem tw11187266045284915165:True:=⟨⟩
theorem tw7931992344070511835:True:=⟨⟩
theorem tw3929653173084401214:True:=⟨⟩
theorem tw3346563839648920602:True:=⟨⟩
theorem tw2186661182229876103:True:=⟨⟩
theorem tw15785909709276002581:True:=⟨⟩
theorem tw2033981117827441360:True:=⟨⟩
theorem tw4997696703429055862:True:=⟨⟩
theorem tw17476277866849922676:True:=⟨⟩
theorem tw9094370755891045088:True:=⟨⟩
theorem tw1551562578327387203:True:=⟨⟩
theorem tw7182054491114000313:True:=⟨⟩
theorem tw4899213925974250047:True:=⟨⟩
theorem tw13019213959353818819:True:=⟨⟩
theorem tw13452265731784883224:True:=⟨⟩
theorem tw12771716154671556922:True:=⟨⟩
theorem tw12464943071770546719:True:=⟨⟩
theorem tw17376847949524093270:True:=⟨⟩
theorem tw17824752392996258641:True:=⟨⟩
theorem tw5628455992422381758:True:=⟨⟩
theorem tw14898519231254506114:True:=⟨⟩
theorem tw3247781773667359151:True:=⟨⟩
theorem tw6768229848814515155:True:=⟨⟩
theorem tw7580093189078851211:True:=⟨⟩
theorem tw15773256664438921017:True:=⟨⟩
theorem tw951017408709147728:True:=⟨⟩
theorem tw7646129796747128462:True:=⟨⟩
theorem tw10024496409239237276:True:=⟨⟩
theorem tw1897451553782378782:True:=⟨⟩
theorem tw6800016427520893735:True:=⟨⟩
theorem tw9238806822247679161:True:=⟨⟩
theorem tw342520143160569185:True:=⟨⟩
theorem tw13978353173905047917:True:=⟨⟩
theorem tw4535567487701408283:True:=⟨⟩
theorem tw2256541071444431875:True:=⟨⟩
theorem tw17298952469127315915:True:=⟨⟩
theorem tw9001102273061943258:True:=⟨⟩
theorem tw9154050254233455222:True:=⟨⟩
theorem tw9326656265423023275:True:=⟨⟩
theorem tw4534016765276911978:True:=⟨⟩
theorem tw14456421934368424748:True:=⟨⟩
theorem tw6459794944833683274:True:=⟨⟩
theorem tw3636134896831660200:True:=⟨⟩
theorem tw6999357397486249264:True:=⟨⟩
theorem tw6581178003161812132:True:=⟨⟩
theorem tw11576826226881563271:True:=⟨⟩
theorem tw11355548370445599847:True:=⟨⟩
theorem tw16599652618745141984:True:=⟨⟩
theorem tw4655208996462264944:True:=⟨⟩
theorem tw17053022506954724078:True:=⟨⟩
theorem tw10827063374403735334:True:=⟨⟩
theorem tw5922965462286781499:True:=⟨⟩
theorem tw6655644350482667245:True:=⟨⟩
theorem tw2907990398872073266:True:=⟨⟩
theorem tw11522572323953171485:True:=⟨⟩
theorem tw14704016042480398966:True:=⟨⟩
theorem tw10608871050909717410:True:=⟨⟩
theorem tw13198336758088267511:True:=⟨⟩
theorem tw745197990794089507:True:=⟨⟩
theorem tw5787334555612976767:True:=⟨⟩
theorem tw4306170187132551169:True:=⟨⟩
theorem tw3009099598881183566:True:=⟨⟩
theorem tw447014336854796753:True:=⟨⟩
theorem tw4501526930465290084:True:=⟨⟩
theorem tw16636478119220809000:True:=⟨⟩
theorem tw8211183258973802227:True:=⟨⟩
theorem tw17205818248020100315:True:=⟨⟩
theorem tw15966118592033791329:True:=⟨⟩
theorem tw10998731617212640009:True:=⟨⟩
theorem tw6735972387549630676:True:=⟨⟩
theorem tw16180671938131110953:True:=⟨⟩
theorem tw9664249085666222513:True:=⟨⟩
theorem tw17967314200065442544:True:=⟨⟩
theorem tw4059425095705247303:True:=⟨⟩
theorem tw9005735545753527843:True:=⟨⟩
theorem tw15232606785627092045:True:=⟨⟩
theorem tw16108650341694120353:True:=⟨⟩
theorem tw15592091159507320386:True:=⟨⟩
theorem tw15639452110950877016:True:=⟨⟩
theorem tw3328937637464211463:True:=⟨⟩
end PySem.W.Fast
open PySem PySem.W PyProof.Rows in
set_option maxRecDepth 100000 in
set_option maxHeartbeats 0 in
open_top hd_top for PySem.Challenge.rw_foldbough_k05_all_rows_that_go_together
set_option Elab.async false
set_option linter.all false
set_option maxRecDepth 100000
set_option maxHeartbeats 2000000
namespace DL
open PySem PySem.Spec PyProof.Rows L2
/-- what a proof stands in: the program, the world, the written part -/
structure Wd where
  P : Program
  w : World
  K : PySem.W.Frag
inductive DV where
  | v (x : V)
  | tup (xs : List DV)
  | lst (xs : List DV)
  | obj (C : Addr) (ns : List Str) (xs : List DV)
  | dk (ks : List Key) (xs : List DV)
  | dl (ks : List Leaf) (xs : List DV)
  | fn (q : Str) (o : Addr → Addr → HO)
abbrev DV.i (n : Int) : DV := .v (.int n)
abbrev DV.s (x : Str) : DV := .v (.str x)
abbrev DV.b (k : Bool) : DV := .v (.bl k)
abbrev DV.n : DV := .v .non
abbrev DV.r (a : Addr) : DV := .v (.ref a)
/-- a dict whose keys are None, ints and texts, by any key kind's rules -/
def leafO (W : Wd) (a : Addr) (kvs : List (Leaf × V)) : HO := .ext fun h => kvs.length ≤ sizeLine ∧ (a == sysModules) = false ∧ ∃ us, KV kvs us ∧ h.DictOf (leafKind W.P W.w) a us
mutual
def Dat (W : Wd) (G : Hp) : DV → V → Prop
  | .v x, y => y = x
  | .tup ds, y => ∃ a xs, y = .ref a ∧ SqT W.K G a xs ∧ DatL W G ds xs
  | .lst ds, y => ∃ a xs, y = .ref a ∧ G a = some (.lst xs) ∧ DatL W G ds xs
  | .obj C ns ds, y => ∃ a dx xs, y = .ref a ∧ G a = some (.ins C dx (ns.zip xs)) ∧ ns.length = ds.length ∧ DatL W G ds xs
  | .dk ks ds, y => ∃ a xs, y = .ref a ∧ Rd G a (.dK (ks.zip xs)) ∧ ks.length = ds.length ∧ DatL W G ds xs
  | .dl ks ds, y => ∃ a xs, y = .ref a ∧ G a = some (leafO W a (ks.zip xs)) ∧ ks.length = ds.length ∧ DatL W G ds xs
  | .fn q o, y => ∃ a c, y = .ref a ∧ G a = some (o a c) ∧ G c = some (LamX.CodeO c q)
def DatL (W : Wd) (G : Hp) : List DV → List V → Prop
  | [], ys => ys = []
  | d :: ds, ys => ∃ y r, ys = y :: r ∧ Dat W G d y ∧ DatL W G ds r
end
/-- any changeable thing, by what is true of the frozen and the whole heap -/
structure MX where
  φ : Hp → Hp → Addr → Prop
  mono : ∀ {G G' H : Hp} {a : Addr}, Same G G' → φ G H a → φ G' H a
  heap : ∀ {G H H' : Hp} {a : Addr}, H' a = H a → φ G H a → φ G H' a
  there : ∀ {G H : Hp} {a : Addr}, φ G H a → ∃ u, H a = some u
inductive MO where
  | lst (xs : List DV)
  | ins (C : Addr) (ns : List Str) (xs : List DV)
  | dk (ks : List Key) (xs : List DV)
  | dl (ks : List Leaf) (xs : List DV)
  | pre (P : List DV → Prop)
  | tab (q : Str)
  | ext (x : MX)
abbrev Mu := Addr → Option MO
def updM (M : Mu) (a : Addr) (o : MO) : Mu := fun b => if b = a then some o else M b
def delM (M : Mu) (a : Addr) : Mu := fun b => if b = a then none else M b
theorem updM_same {M : Mu} {a : Addr} {o : MO} : updM M a o a = some o := if_pos rfl
theorem updM_ne {M : Mu} {a b : Addr} {o : MO} (h : b ≠ a) : updM M a o b = M b := if_neg h
theorem updM_upd {M : Mu} {a : Addr} {o u : MO} : updM (updM M a o) a u = updM M a u := by
  funext b; unfold updM; split <;> rfl
theorem delM_same {M : Mu} {a : Addr} : delM M a a = none := if_pos rfl
theorem delM_ne {M : Mu} {a b : Addr} (h : b ≠ a) : delM M a b = M b := if_neg h
theorem delM_updM {M : Mu} {a : Addr} {o : MO} (h : M a = none) : delM (updM M a o) a = M := by
  funext b; unfold delM updM
  by_cases e : b = a
  · rw [if_pos e, e, h]
  · rw [if_neg e, if_neg e]
def MAt (W : Wd) (G H : Hp) (a : Addr) : MO → Prop
  | .lst ds => ∃ xs, H a = some (.lst xs) ∧ DatL W G ds xs
  | .ins C ns ds => ∃ dx xs, H a = some (.ins C dx (ns.zip xs)) ∧ ns.length = ds.length ∧ DatL W G ds xs
  | .dk ks ds => ∃ xs, H a = some (.dK (ks.zip xs)) ∧ ks.length = ds.length ∧ DatL W G ds xs
  | .dl ks ds => ∃ xs, H a = some (leafO W a (ks.zip xs)) ∧ ks.length = ds.length ∧ DatL W G ds xs
  | .pre P => ∃ ds xs, P ds ∧ H a = some (.lst xs) ∧ DatL W G ds xs
  | .tab q => ∃ ps : Array Value, H a = some (.tbl ps) ∧ TriplesOk ps.toList ∧ ∀ pos cv, codeAmong pos ps.toList = some cv → ∃ c, cv = .ref c ∧ G c = some (LamX.CodeO c q)
  | .ext x => x.φ G H a
structure Rep (W : Wd) (G : Hp) (M : Mu) (F H : Hp) : Prop where
  ex : Same G H
  fr : Same F H
  fd : ∀ a o, F a = some o → G a = none ∧ M a = none
  mu : ∀ a o, M a = some o → G a = none ∧ MAt W G H a o
theorem Rd.same {G G' : Hp} {a : Addr} {u : HO} (e : Same G G') (h : Rd G a u) : Rd G' a u := by
  rcases h with h | ⟨o, h⟩
  · exact .inl (e _ _ h)
  · exact .inr ⟨o, e _ _ h⟩
theorem sql_mono {K : PySem.W.Frag} {G G' : Hp} {a : Addr} {xs : List V} (e : Same G G') (h : SqL K G a xs) : SqL K G' a xs := by
  rcases h with h | h
  · exact .inl (Rd.same e h)
  · exact .inr h
theorem sqt_mono {K : PySem.W.Frag} {G G' : Hp} {a : Addr} {xs : List V} (e : Same G G') (h : SqT K G a xs) : SqT K G' a xs := by
  rcases h with h | h
  · exact .inl (Rd.same e h)
  · exact .inr h
section
variable {W : Wd} {G G' : Hp}
mutual
theorem Dat.mono (e : Same G G') : ∀ {d : DV} {y : V}, Dat W G d y → Dat W G' d y
  | .v x, y, h => by simpa only [Dat] using h
  | .tup ds, y, h => by
    simp only [Dat] at h ⊢
    obtain ⟨a, xs, h1, h2, h3⟩ := h
    exact ⟨a, xs, h1, sqt_mono e h2, DatL.mono e h3⟩
  | .lst ds, y, h => by
    simp only [Dat] at h ⊢
    obtain ⟨a, xs, h1, h2, h3⟩ := h
    exact ⟨a, xs, h1, e _ _ h2, DatL.mono e h3⟩
  | .obj C ns ds, y, h => by
    simp only [Dat] at h ⊢
    obtain ⟨a, dx, xs, h1, h2, h3, h4⟩ := h
    exact ⟨a, dx, xs, h1, e _ _ h2, h3, DatL.mono e h4⟩
  | .dk ks ds, y, h => by
    simp only [Dat] at h ⊢
    obtain ⟨a, xs, h1, h2, h3, h4⟩ := h
    exact ⟨a, xs, h1, Rd.same e h2, h3, DatL.mono e h4⟩
  | .dl ks ds, y, h => by
    simp only [Dat] at h ⊢
    obtain ⟨a, xs, h1, h2, h3, h4⟩ := h
    exact ⟨a, xs, h1, e _ _ h2, h3, DatL.mono e h4⟩
  | .fn q o, y, h => by
    simp only [Dat] at h ⊢
    obtain ⟨a, c, h1, h2, h3⟩ := h
    exact ⟨a, c, h1, e _ _ h2, e _ _ h3⟩
theorem DatL.mono (e : Same G G') : ∀ {ds : List DV} {ys : List V}, DatL W G ds ys → DatL W G' ds ys
  | [], ys, h => by simpa only [DatL] using h
  | d :: ds, ys, h => by
    simp only [DatL] at h ⊢
    obtain ⟨y, r, h1, h2, h3⟩ := h
    exact ⟨y, r, h1, Dat.mono e h2, DatL.mono e h3⟩
end
theorem dat_v {x y : V} : Dat W G (.v x) y ↔ y = x := by simp only [Dat]
theorem dat_v' {x : V} : Dat W G (.v x) x := dat_v.mpr rfl
theorem dat_tup {ds : List DV} {y : V} : Dat W G (.tup ds) y ↔ ∃ a xs, y = .ref a ∧ SqT W.K G a xs ∧ DatL W G ds xs := by simp only [Dat]
theorem dat_lst {ds : List DV} {y : V} : Dat W G (.lst ds) y ↔ ∃ a xs, y = .ref a ∧ G a = some (.lst xs) ∧ DatL W G ds xs := by simp only [Dat]
theorem dat_obj {C : Addr} {ns : List Str} {ds : List DV} {y : V} : Dat W G (.obj C ns ds) y ↔ ∃ a dx xs, y = .ref a ∧ G a = some (.ins C dx (ns.zip xs)) ∧ ns.length = ds.length ∧ DatL W G ds xs := by simp only [Dat]
theorem dat_dk {ks : List Key} {ds : List DV} {y : V} : Dat W G (.dk ks ds) y ↔ ∃ a xs, y = .ref a ∧ Rd G a (.dK (ks.zip xs)) ∧ ks.length = ds.length ∧ DatL W G ds xs := by simp only [Dat]
theorem dat_dl {ks : List Leaf} {ds : List DV} {y : V} : Dat W G (.dl ks ds) y ↔ ∃ a xs, y = .ref a ∧ G a = some (leafO W a (ks.zip xs)) ∧ ks.length = ds.length ∧ DatL W G ds xs := by simp only [Dat]
theorem dat_fn {q : Str} {o : Addr → Addr → HO} {y : V} : Dat W G (.fn q o) y ↔ ∃ a c, y = .ref a ∧ G a = some (o a c) ∧ G c = some (LamX.CodeO c q) := by simp only [Dat]
theorem datL_nil {ys : List V} : DatL W G [] ys ↔ ys = [] := by simp only [DatL]
theorem datL_nil' : DatL W G [] [] := datL_nil.mpr rfl
theorem datL_cons {d : DV} {ds : List DV} {ys : List V} : DatL W G (d :: ds) ys ↔ ∃ y r, ys = y :: r ∧ Dat W G d y ∧ DatL W G ds r := by simp only [DatL]
theorem datL_cons' {d : DV} {ds : List DV} {y : V} {ys : List V} (h : Dat W G d y) (t : DatL W G ds ys) : DatL W G (d :: ds) (y :: ys) := datL_cons.mpr ⟨y, ys, rfl, h, t⟩
theorem DatL.length : ∀ {ds : List DV} {ys : List V}, DatL W G ds ys → ys.length = ds.length
  | [], ys, h => by rw [datL_nil.mp h]; rfl
  | d :: ds, ys, h => by
    obtain ⟨y, r, e, _, t⟩ := datL_cons.mp h
    rw [e, List.length_cons, List.length_cons, DatL.length t]
theorem DatL.append : ∀ {ds es : List DV} {xs ys : List V}, DatL W G ds xs → DatL W G es ys → DatL W G (ds ++ es) (xs ++ ys)
  | [], es, xs, ys, h, k => by rw [datL_nil.mp h]; exact k
  | d :: ds, es, xs, ys, h, k => by
    obtain ⟨y, r, e, a, t⟩ := datL_cons.mp h
    rw [e]
    exact datL_cons' a (DatL.append t k)
theorem DatL.get : ∀ {ds : List DV} {ys : List V} {i : Nat} {d : DV}, DatL W G ds ys → ds[i]? = some d → ∃ y, ys[i]? = some y ∧ Dat W G d y
  | [], ys, i, d, h, e => by simp at e
  | d :: ds, ys, 0, d', h, e => by
    obtain ⟨y, r, e1, a, t⟩ := datL_cons.mp h
    simp at e
    subst e e1
    exact ⟨y, rfl, a⟩
  | d :: ds, ys, i + 1, d', h, e => by
    obtain ⟨y, r, e1, a, t⟩ := datL_cons.mp h
    subst e1
    obtain ⟨z, e2, hz⟩ := DatL.get (i := i) t (by simpa using e)
    exact ⟨z, by simpa using e2, hz⟩
theorem DatL.getV : ∀ {ds : List DV} {ys : List V} {i : Nat} {y : V}, DatL W G ds ys → ys[i]? = some y → ∃ d, ds[i]? = some d ∧ Dat W G d y := fun {ds ys i y} h e => by
  have hl := h.length
  have hi : i < ds.length := by rw [← hl]; exact (List.getElem?_eq_some_iff.mp e).1
  obtain ⟨z, e2, hz⟩ := h.get (List.getElem?_eq_getElem hi)
  rw [e] at e2
  cases e2
  exact ⟨_, List.getElem?_eq_getElem hi, hz⟩
theorem DatL.set : ∀ {ds : List DV} {ys : List V} {d : DV} {y : V} (i : Nat), DatL W G ds ys → Dat W G d y → DatL W G (ds.set i d) (ys.set i y)
  | [], ys, d, y, i, h, k => by rw [datL_nil.mp h]; exact datL_nil'
  | e :: ds, ys, d, y, 0, h, k => by
    obtain ⟨z, r, e1, a, t⟩ := datL_cons.mp h
    subst e1
    exact datL_cons' k t
  | e :: ds, ys, d, y, i + 1, h, k => by
    obtain ⟨z, r, e1, a, t⟩ := datL_cons.mp h
    subst e1
    exact datL_cons' a (DatL.set i t k)
theorem DatL.drop : ∀ {ds : List DV} {ys : List V} (i : Nat), DatL W G ds ys → DatL W G (ds.drop i) (ys.drop i)
  | ds, ys, 0, h => h
  | [], ys, i + 1, h => by rw [datL_nil.mp h]; exact datL_nil'
  | e :: ds, ys, i + 1, h => by
    obtain ⟨z, r, e1, a, t⟩ := datL_cons.mp h
    subst e1
    exact DatL.drop i t
theorem DatL.take : ∀ {ds : List DV} {ys : List V} (i : Nat), DatL W G ds ys → DatL W G (ds.take i) (ys.take i)
  | ds, ys, 0, h => datL_nil'
  | [], ys, i + 1, h => by rw [datL_nil.mp h]; exact datL_nil'
  | e :: ds, ys, i + 1, h => by
    obtain ⟨z, r, e1, a, t⟩ := datL_cons.mp h
    subst e1
    exact datL_cons' a (DatL.take i t)
theorem DatL.reverse : ∀ {ds : List DV} {ys : List V}, DatL W G ds ys → DatL W G ds.reverse ys.reverse
  | [], ys, h => by rw [datL_nil.mp h]; exact datL_nil'
  | e :: ds, ys, h => by
    obtain ⟨z, r, e1, a, t⟩ := datL_cons.mp h
    subst e1
    rw [List.reverse_cons, List.reverse_cons]
    exact (DatL.reverse t).append (datL_cons' a datL_nil')
theorem datL_v : ∀ (xs : List V), DatL W G (xs.map DV.v) xs
  | [] => datL_nil'
  | x :: xs => datL_cons' dat_v' (datL_v xs)
theorem datL_vs : ∀ {xs ys : List V}, DatL W G (xs.map DV.v) ys → ys = xs
  | [], ys, h => datL_nil.mp h
  | x :: xs, ys, h => by
    obtain ⟨y, r, e, a, t⟩ := datL_cons.mp h
    rw [e, dat_v.mp a, datL_vs t]
end
section
variable {W : Wd} {G G' : Hp} {M : Mu} {F H H' : Hp}
theorem MAt.mono (e : Same G G') {a : Addr} : ∀ {o : MO}, MAt W G H a o → MAt W G' H a o
  | .lst ds, ⟨xs, h1, h2⟩ => ⟨xs, h1, h2.mono e⟩
  | .ins C ns ds, ⟨dx, xs, h1, h2, h3⟩ => ⟨dx, xs, h1, h2, h3.mono e⟩
  | .dk ks ds, ⟨xs, h1, h2, h3⟩ => ⟨xs, h1, h2, h3.mono e⟩
  | .dl ks ds, ⟨xs, h1, h2, h3⟩ => ⟨xs, h1, h2, h3.mono e⟩
  | .pre P, ⟨ds, xs, h0, h1, h2⟩ => ⟨ds, xs, h0, h1, h2.mono e⟩
  | .tab q, ⟨ps, h0, h1, h2⟩ => ⟨ps, h0, h1, fun pos cv k => let ⟨c, e1, e2⟩ := h2 pos cv k; ⟨c, e1, e _ _ e2⟩⟩
  | .ext x, h => x.mono e h
theorem MAt.heap {a : Addr} (e : H' a = H a) : ∀ {o : MO}, MAt W G H a o → MAt W G H' a o
  | .lst ds, ⟨xs, h1, h2⟩ => ⟨xs, e.trans h1, h2⟩
  | .ins C ns ds, ⟨dx, xs, h1, h2, h3⟩ => ⟨dx, xs, e.trans h1, h2, h3⟩
  | .dk ks ds, ⟨xs, h1, h2, h3⟩ => ⟨xs, e.trans h1, h2, h3⟩
  | .dl ks ds, ⟨xs, h1, h2, h3⟩ => ⟨xs, e.trans h1, h2, h3⟩
  | .pre P, ⟨ds, xs, h0, h1, h2⟩ => ⟨ds, xs, h0, e.trans h1, h2⟩
  | .tab q, ⟨ps, h0, h1, h2⟩ => ⟨ps, e.trans h0, h1, h2⟩
  | .ext x, h => x.heap e h
theorem MAt.there {a : Addr} : ∀ {o : MO}, MAt W G H a o → ∃ u, H a = some u
  | .lst ds, ⟨xs, h1, h2⟩ => ⟨_, h1⟩
  | .ins C ns ds, ⟨dx, xs, h1, h2, h3⟩ => ⟨_, h1⟩
  | .dk ks ds, ⟨xs, h1, h2, h3⟩ => ⟨_, h1⟩
  | .dl ks ds, ⟨xs, h1, h2, h3⟩ => ⟨_, h1⟩
  | .pre P, ⟨ds, xs, h0, h1, h2⟩ => ⟨_, h1⟩
  | .tab q, ⟨ps, h0, h1, h2⟩ => ⟨_, h0⟩
  | .ext x, h => x.there h
/-- a new frozen object -/
theorem Rep.new {p : Addr} {o : HO} (R : Rep W G M F H) (hp : H p = none) : Rep W (upd G p o) M F (upd H p o) where
  ex := fun a u e => by
    by_cases h : a = p
    · subst h; rw [upd_same] at e ⊢; exact e
    · rw [upd_ne h] at e ⊢; exact R.ex a u e
  fr := fun a u e => by rw [upd_ne (ne_of_none (R.fr a u e) hp)]; exact R.fr a u e
  fd := fun a u e => by rw [upd_ne (ne_of_none (R.fr a u e) hp)]; exact R.fd a u e
  mu := fun a u e => by
    obtain ⟨h1, h2⟩ := R.mu a u e
    obtain ⟨z, hz⟩ := h2.there
    have ne := ne_of_none hz hp
    refine ⟨by rw [upd_ne ne]; exact h1, (h2.mono (G' := upd G p o) ?_).heap (upd_ne ne)⟩
    exact fun b v hb => by rw [upd_ne (ne_of_none (R.ex b v hb) hp)]; exact hb
theorem Rep.gnone {p : Addr} (R : Rep W G M F H) (hp : H p = none) : G p = none := R.ex.free hp
theorem same_new {p : Addr} {o : HO} (hp : G p = none) : Same G (upd G p o) := fun b v hb => by rw [upd_ne (ne_of_none hb hp)]; exact hb
/-- a new object that is dropped -/
theorem Rep.skip {p : Addr} {o : HO} (R : Rep W G M F H) (hp : H p = none) : Rep W G M F (upd H p o) where
  ex := fun a u e => by rw [upd_ne (ne_of_none (R.ex a u e) hp)]; exact R.ex a u e
  fr := fun a u e => by rw [upd_ne (ne_of_none (R.fr a u e) hp)]; exact R.fr a u e
  fd := R.fd
  mu := fun a u e => by
    obtain ⟨h1, h2⟩ := R.mu a u e
    obtain ⟨z, hz⟩ := h2.there
    exact ⟨h1, h2.heap (upd_ne (ne_of_none hz hp))⟩
/-- a new changeable object -/
theorem Rep.newM {p : Addr} {o : HO} {mo : MO} (R : Rep W G M F H) (hp : H p = none) (hm : MAt W G (upd H p o) p mo) : Rep W G (updM M p mo) F (upd H p o) where
  ex := fun a u e => by rw [upd_ne (ne_of_none (R.ex a u e) hp)]; exact R.ex a u e
  fr := fun a u e => by rw [upd_ne (ne_of_none (R.fr a u e) hp)]; exact R.fr a u e
  fd := fun a u e => ⟨(R.fd a u e).1, by rw [updM_ne (ne_of_none (R.fr a u e) hp)]; exact (R.fd a u e).2⟩
  mu := fun a u e => by
    by_cases h : a = p
    · subst h
      rw [updM_same] at e
      cases e
      exact ⟨R.gnone hp, hm⟩
    · rw [updM_ne h] at e
      obtain ⟨h1, h2⟩ := R.mu a u e
      exact ⟨h1, h2.heap (upd_ne h)⟩
theorem Rep.mnone {p : Addr} (R : Rep W G M F H) (hp : H p = none) : M p = none := by
  cases q : M p with
  | none => rfl
  | some o =>
    obtain ⟨z, hz⟩ := (R.mu p o q).2.there
    rw [hp] at hz; cases hz
theorem Rep.fnone {p : Addr} (R : Rep W G M F H) (hp : H p = none) : F p = none := R.fr.free hp
/-- a changeable object is changed -/
theorem Rep.write {p : Addr} {o : HO} {mo mo' : MO} (R : Rep W G M F H) (hp : M p = some mo) (hm : MAt W G (upd H p o) p mo') : Rep W G (updM M p mo') F (upd H p o) where
  ex := fun a u e => by
    have ne : a ≠ p := fun z => by subst z; rw [(R.mu a mo hp).1] at e; cases e
    rw [upd_ne ne]; exact R.ex a u e
  fr := fun a u e => by
    have ne : a ≠ p := fun z => by subst z; rw [(R.fd a u e).2] at hp; cases hp
    rw [upd_ne ne]; exact R.fr a u e
  fd := fun a u e => by
    have ne : a ≠ p := fun z => by subst z; rw [(R.fd a u e).2] at hp; cases hp
    exact ⟨(R.fd a u e).1, by rw [updM_ne ne]; exact (R.fd a u e).2⟩
  mu := fun a u e => by
    by_cases h : a = p
    · subst h
      rw [updM_same] at e
      cases e
      exact ⟨(R.mu a mo hp).1, hm⟩
    · rw [updM_ne h] at e
      obtain ⟨h1, h2⟩ := R.mu a u e
      exact ⟨h1, h2.heap (upd_ne h)⟩
end
abbrev Ro := List (Option DV)
structure EnvOk (W : Wd) (G : Hp) (ρ : Ro) (σ : L2.St) : Prop where
  len : ρ.length = σ.length
  get : ∀ (i : Nat) d, ρ[i]? = some (some d) → ∃ v, σ[i]? = some (some v) ∧ Dat W G d v
section
variable {W : Wd} {G G' : Hp} {ρ : Ro} {σ : L2.St}
theorem EnvOk.mono (e : Same G G') (E : EnvOk W G ρ σ) : EnvOk W G' ρ σ := ⟨E.len, fun i d h => by
  obtain ⟨v, h1, h2⟩ := E.get i d h
  exact ⟨v, h1, h2.mono e⟩⟩
theorem EnvOk.set {i : Nat} {d : DV} {v : V} (E : EnvOk W G ρ σ) (h : Dat W G d v) : EnvOk W G (ρ.set i (some d)) (σ.set i (some v)) := ⟨by simp [E.len], fun j e hj => by
  by_cases q : i = j
  · subst q
    have hl : i < ρ.length := by
      have := (List.getElem?_eq_some_iff.mp hj).1
      simpa using this
    rw [List.getElem?_set_self hl] at hj
    cases hj
    exact ⟨v, List.getElem?_set_self (by rw [← E.len]; exact hl), h⟩
  · rw [List.getElem?_set_ne q] at hj
    obtain ⟨u, h1, h2⟩ := E.get j e hj
    exact ⟨u, by rw [List.getElem?_set_ne q]; exact h1, h2⟩⟩
/-- forgetting -/
theorem EnvOk.weak {ρ' : Ro} (E : EnvOk W G ρ σ) (hl : ρ'.length = ρ.length) (h : ∀ (i : Nat) d, ρ'[i]? = some (some d) → ρ[i]? = some (some d)) : EnvOk W G ρ' σ := ⟨hl.trans E.len, fun i d q => E.get i d (h i d q)⟩
def start2 (N : List Str) (ds : List DV) : Ro := ds.map some ++ List.replicate (N.length - ds.length) none
theorem env_start {N : List Str} {ds : List DV} {vs : List V} (h : DatL W G ds vs) : EnvOk W G (start2 N ds) (L2.start N vs) := by
  have hl := h.length
  refine ⟨by simp [start2, L2.start, hl], fun i d e => ?_⟩
  unfold start2 at e
  unfold L2.start
  by_cases q : i < ds.length
  · rw [List.getElem?_append_left (by simpa using q)] at e
    rw [List.getElem?_append_left (by simpa [hl] using q)]
    rw [List.getElem?_map] at e
    cases z : ds[i]? with
    | none => rw [z] at e; cases e
    | some d' =>
      rw [z] at e
      cases e
      obtain ⟨y, e2, hy⟩ := h.get z
      exact ⟨y, by rw [List.getElem?_map, e2]; rfl, hy⟩
  · rw [List.getElem?_append_right (by simpa using q)] at e
    exfalso
    rw [List.getElem?_replicate] at e
    split at e <;> cases e
end
/-- where a judgement stands: the world, the frozen heap at the beginning, the frame that is kept -/
structure Zn where
  W : Wd
  G : Hp
  F : Hp
abbrev DQ := DV → Mu → Prop
/-- what is wanted of a value, carried over -/
def RetOk (W : Wd) (G F : Hp) (Q2 : DQ) (Q : VK) : Prop := ∀ d v G' M' H', Same G G' → Rep W G' M' F H' → Dat W G' d v → Q2 d M' → Q v H'
def WE (Z : Zn) (te : TE) (ρ : Ro) (M : Mu) (Q2 : DQ) : Prop :=
  ∀ G σ H Q, Same Z.G G → Rep Z.W G M Z.F H → EnvOk Z.W G ρ σ → RetOk Z.W G Z.F Q2 Q → te σ H Q
def WT (Z : Zn) (tt : TT) (ρ : Ro) (M : Mu) (Q2 : Bool → Mu → Prop) : Prop :=
  ∀ G σ H Q, Same Z.G G → Rep Z.W G M Z.F H → EnvOk Z.W G ρ σ → (∀ b G' M' H', Same G G' → Rep Z.W G' M' Z.F H' → Q2 b M' → Q b H') → tt σ H Q
def WA (Z : Zn) (ta : TA) (ρ : Ro) (M : Mu) (Q2 : List DV → Mu → Prop) : Prop :=
  ∀ G σ H Q, Same Z.G G → Rep Z.W G M Z.F H → EnvOk Z.W G ρ σ → (∀ ds vs G' M' H', Same G G' → Rep Z.W G' M' Z.F H' → DatL Z.W G' ds vs → Q2 ds M' → Q vs H') → ta σ H Q
structure Ends2 where
  nx : Ro → Mu → Prop
  rt : DQ
  bk : Ro → Mu → Prop := fun _ _ => False
  ct : Ro → Mu → Prop := fun _ _ => False
def NxOk (W : Wd) (G F : Hp) (P2 : Ro → Mu → Prop) (P : L2.St → Hp → Prop) : Prop := ∀ ρ' σ' G' M' H', Same G G' → Rep W G' M' F H' → EnvOk W G' ρ' σ' → P2 ρ' M' → P σ' H'
structure EndsOk (W : Wd) (G F : Hp) (D2 : Ends2) (D : Ends) : Prop where
  nx : NxOk W G F D2.nx D.nx
  rt : RetOk W G F D2.rt D.rt
  bk : NxOk W G F D2.bk D.bk
  ct : NxOk W G F D2.ct D.ct
def WS (Z : Zn) (ts : TS) (D2 : Ends2) (ρ : Ro) (M : Mu) : Prop :=
  ∀ G σ H D, Same Z.G G → Rep Z.W G M Z.F H → EnvOk Z.W G ρ σ → EndsOk Z.W G Z.F D2 D → ts D σ H
/-- a two-place operation, a one-place one, a call, by values -/
def WR (Z : Zn) (r : R2) (x y : DV) (M : Mu) (Q2 : DQ) : Prop :=
  ∀ G H vx vy Q, Same Z.G G → Rep Z.W G M Z.F H → Dat Z.W G x vx → Dat Z.W G y vy → RetOk Z.W G Z.F Q2 Q → r vx vy H Q
def WU (Z : Zn) (r : V → Hp → VK → Prop) (x : DV) (M : Mu) (Q2 : DQ) : Prop :=
  ∀ G H vx Q, Same Z.G G → Rep Z.W G M Z.F H → Dat Z.W G x vx → RetOk Z.W G Z.F Q2 Q → r vx H Q
def WC (Z : Zn) (r : List V → Hp → VK → Prop) (xs : List DV) (M : Mu) (Q2 : DQ) : Prop :=
  ∀ G H vs Q, Same Z.G G → Rep Z.W G M Z.F H → DatL Z.W G xs vs → RetOk Z.W G Z.F Q2 Q → r vs H Q
section
variable {W : Wd} {Z : Zn} {G G' F : Hp} {ρ : Ro} {σ : L2.St} {M : Mu} {H : Hp} {te ta tb : TE} {tt tu : TT} {ts tr : TS} {tx : TA} {Q2 Q2' : DQ} {D2 : Ends2}
theorem RetOk.mono {Q : VK} (e : Same G G') (h : RetOk W G F Q2 Q) : RetOk W G' F Q2 Q := fun d v G1 M1 H1 s R x q => h d v G1 M1 H1 (e.trans s) R x q
theorem RetOk.imp {Q : VK} (k : ∀ d M', Q2 d M' → Q2' d M') (h : RetOk W G F Q2' Q) : RetOk W G F Q2 Q := fun d v G1 M1 H1 s R x q => h d v G1 M1 H1 s R x (k d M1 q)
theorem NxOk.mono {P2 : Ro → Mu → Prop} {P : L2.St → Hp → Prop} (e : Same G G') (h : NxOk W G F P2 P) : NxOk W G' F P2 P := fun ρ' σ' G1 M1 H1 s R x q => h ρ' σ' G1 M1 H1 (e.trans s) R x q
theorem EndsOk.mono {D : Ends} (e : Same G G') (h : EndsOk W G F D2 D) : EndsOk W G' F D2 D := ⟨h.nx.mono e, h.rt.mono e, h.bk.mono e, h.ct.mono e⟩
theorem WE.imp (h : WE Z te ρ M Q2) (k : ∀ d M', Q2 d M' → Q2' d M') : WE Z te ρ M Q2' := fun G σ H Q s R E r => h G σ H Q s R E (r.imp k)
theorem WA.imp {P P' : List DV → Mu → Prop} (h : WA Z tx ρ M P) (k : ∀ d M', P d M' → P' d M') : WA Z tx ρ M P' := fun G σ H Q s R E r => h G σ H Q s R E fun d v G' M' H' s' R' x q => r d v G' M' H' s' R' x (k d M' q)
theorem we_var {i : Nat} {d : DV} (hi : ρ[i]? = some (some d)) (h : Q2 d M) : WE Z (tVar i) ρ M Q2 := fun G σ H Q s R E r => by
  obtain ⟨v, h1, h2⟩ := E.get i d hi
  exact ⟨v, h1, r d v G M H (Same.refl G) R h2 h⟩
theorem we_c {x : V} (h : Q2 (.v x) M) : WE Z (tC x) ρ M Q2 := fun G σ H Q s R E r => r _ x G M H (Same.refl G) R dat_v' h
theorem we_op {r : R2} (h : WE Z ta ρ M fun x M1 => WE Z tb ρ M1 fun y M2 => WR Z r x y M2 Q2) : WE Z (tOp r ta tb) ρ M Q2 := fun G σ H Q s R E rt =>
  h G σ H _ s R E fun x vx G1 M1 H1 s1 R1 dx h1 => h1 G1 σ H1 _ (s.trans s1) R1 (E.mono s1) fun y vy G2 M2 H2 s2 R2 dy h2 =>
    h2 G2 H2 vx vy Q ((s.trans s1).trans s2) R2 (dx.mono s2) dy (rt.mono (s1.trans s2))
theorem we_un {r : V → Hp → VK → Prop} (h : WE Z ta ρ M fun x M1 => WU Z r x M1 Q2) : WE Z (tUn r ta) ρ M Q2 := fun G σ H Q s R E rt =>
  h G σ H _ s R E fun x vx G1 M1 H1 s1 R1 dx h1 => h1 G1 H1 vx Q (s.trans s1) R1 dx (rt.mono s1)
theorem wr_I0 {g : Int → Int → V} {i j : Int} (h : Q2 (.v (g i j)) M) : WR Z (rI0 g) (.i i) (.i j) M Q2 := fun G H vx vy Q s R dx dy r =>
  ⟨i, j, dat_v.mp dx, dat_v.mp dy, r _ _ G M H (Same.refl G) R dat_v' h⟩
theorem wr_I {C : Int → Int → Prop} {g : Int → Int → V} {i j : Int} (hc : C i j) (h : Q2 (.v (g i j)) M) : WR Z (rI C g) (.i i) (.i j) M Q2 := fun G H vx vy Q s R dx dy r =>
  ⟨i, j, dat_v.mp dx, dat_v.mp dy, hc, r _ _ G M H (Same.refl G) R dat_v' h⟩
theorem wr_eq {x y : V} (hs : scal x y = true) (h : Q2 (.b (decide (x = y))) M) : WR Z rEq (.v x) (.v y) M Q2 := fun G H vx vy Q s R dx dy r => by
  rw [dat_v] at dx dy
  subst dx dy
  exact ⟨hs, r _ _ G M H (Same.refl G) R dat_v' h⟩
theorem wr_ne {x y : V} (hs : scal x y = true) (h : Q2 (.b (!decide (x = y))) M) : WR Z rNe (.v x) (.v y) M Q2 := fun G H vx vy Q s R dx dy r => by
  rw [dat_v] at dx dy
  subst dx dy
  exact ⟨hs, r _ _ G M H (Same.refl G) R dat_v' h⟩
theorem WT.imp {P P' : Bool → Mu → Prop} (h : WT Z tt ρ M P) (k : ∀ b M', P b M' → P' b M') : WT Z tt ρ M P' := fun G σ H Q s R E r => h G σ H Q s R E fun b G' M' H' s' R' q => r b G' M' H' s' R' (k b M' q)
theorem wt_test {P : Bool → Mu → Prop} (h : WE Z te ρ M fun d M' => ∃ b, d = .b b ∧ P b M') : WT Z (tTest te) ρ M P := fun G σ H Q s R E r => by
  refine h G σ H _ s R E fun d v G' M' H' s' R' x q => ?_
  obtain ⟨b, rfl, q⟩ := q
  exact ⟨b, dat_v.mp x, r b G' M' H' s' R' q⟩
theorem wt_B {P : Bool → Mu → Prop} (h : WE Z te ρ M fun d M' => ∃ b, d = .b b ∧ P b M') : WT Z (tB te) ρ M P := wt_test h
theorem wt_and {P : Bool → Mu → Prop} (h : WT Z tt ρ M fun b M1 => if b = true then WT Z tu ρ M1 P else P false M1) : WT Z (tAnd tt tu) ρ M P := fun G σ H Q s R E r =>
  h G σ H _ s R E fun b G1 M1 H1 s1 R1 q => by
    cases b with
    | true => exact q G1 σ H1 Q (s.trans s1) R1 (E.mono s1) fun b G2 M2 H2 s2 R2 q2 => r b G2 M2 H2 (s1.trans s2) R2 q2
    | false => exact r false G1 M1 H1 s1 R1 q
theorem wt_or {P : Bool → Mu → Prop} (h : WT Z tt ρ M fun b M1 => if b = true then P true M1 else WT Z tu ρ M1 P) : WT Z (tOr tt tu) ρ M P := fun G σ H Q s R E r =>
  h G σ H _ s R E fun b G1 M1 H1 s1 R1 q => by
    cases b with
    | false => exact q G1 σ H1 Q (s.trans s1) R1 (E.mono s1) fun b G2 M2 H2 s2 R2 q2 => r b G2 M2 H2 (s1.trans s2) R2 q2
    | true => exact r true G1 M1 H1 s1 R1 q
theorem wt_not {P : Bool → Mu → Prop} (h : WT Z tt ρ M fun b M1 => P (!b) M1) : WT Z (tNot tt) ρ M P := fun G σ H Q s R E r =>
  h G σ H _ s R E fun b G1 M1 H1 s1 R1 q => r (!b) G1 M1 H1 s1 R1 q
theorem wt_yes {P : Bool → Mu → Prop} (h : P true M) : WT Z tYes ρ M P := fun G σ H Q s R E r => r true G M H (Same.refl G) R h
theorem we_andV (h : WE Z ta ρ M fun d M1 => ∃ c, d = .b c ∧ if c = true then WE Z tb ρ M1 Q2 else Q2 (.b false) M1) : WE Z (tAndV ta tb) ρ M Q2 := fun G σ H Q s R E r =>
  h G σ H _ s R E fun d v G1 M1 H1 s1 R1 x q => by
    obtain ⟨c, rfl, q⟩ := q
    refine ⟨c, dat_v.mp x, ?_⟩
    cases c with
    | true => exact q G1 σ H1 Q (s.trans s1) R1 (E.mono s1) (r.mono s1)
    | false => exact r _ _ G1 M1 H1 s1 R1 dat_v' q
theorem we_orV (h : WE Z ta ρ M fun d M1 => ∃ c, d = .b c ∧ if c = true then Q2 (.b true) M1 else WE Z tb ρ M1 Q2) : WE Z (tOrV ta tb) ρ M Q2 := fun G σ H Q s R E r =>
  h G σ H _ s R E fun d v G1 M1 H1 s1 R1 x q => by
    obtain ⟨c, rfl, q⟩ := q
    refine ⟨c, dat_v.mp x, ?_⟩
    cases c with
    | false => exact q G1 σ H1 Q (s.trans s1) R1 (E.mono s1) (r.mono s1)
    | true => exact r _ _ G1 M1 H1 s1 R1 dat_v' q
theorem we_notV (h : WE Z ta ρ M fun d M1 => ∃ c, d = .b c ∧ Q2 (.b (!c)) M1) : WE Z (tNotV ta) ρ M Q2 := fun G σ H Q s R E r =>
  h G σ H _ s R E fun d v G1 M1 H1 s1 R1 x q => by
    obtain ⟨c, rfl, q⟩ := q
    exact ⟨c, dat_v.mp x, r _ _ G1 M1 H1 s1 R1 dat_v' q⟩
theorem we_if (h : WT Z tt ρ M fun b M1 => if b = true then WE Z ta ρ M1 Q2 else WE Z tb ρ M1 Q2) : WE Z (tIf tt ta tb) ρ M Q2 := fun G σ H Q s R E r =>
  h G σ H _ s R E fun b G1 M1 H1 s1 R1 q => by
    cases b with
    | true => exact q G1 σ H1 Q (s.trans s1) R1 (E.mono s1) (r.mono s1)
    | false => exact q G1 σ H1 Q (s.trans s1) R1 (E.mono s1) (r.mono s1)
theorem wa_nil {P : List DV → Mu → Prop} (h : P [] M) : WA Z tNil ρ M P := fun G σ H Q s R E r => r [] [] G M H (Same.refl G) R datL_nil' h
theorem wa_cons {P : List DV → Mu → Prop} (h : WE Z te ρ M fun d M1 => WA Z tx ρ M1 fun ds M2 => P (d :: ds) M2) : WA Z (tCons te tx) ρ M P := fun G σ H Q s R E r =>
  h G σ H _ s R E fun d v G1 M1 H1 s1 R1 x q => q G1 σ H1 _ (s.trans s1) R1 (E.mono s1) fun ds vs G2 M2 H2 s2 R2 xs q2 =>
    r (d :: ds) (v :: vs) G2 M2 H2 (s1.trans s2) R2 (datL_cons' (x.mono s2) xs) q2
theorem we_tup (h : WA Z tx ρ M fun ds M1 => ds.length ≤ sizeLine ∧ Q2 (.tup ds) M1) : WE Z (tTup tx) ρ M Q2 := fun G σ H Q s R E r =>
  h G σ H _ s R E fun ds vs G1 M1 H1 s1 R1 x q => ⟨by rw [x.length]; exact q.1, fun p hp =>
    r _ _ (upd G1 p (.tup vs)) M1 _ (s1.trans (same_new (R1.gnone hp))) (R1.new hp) (dat_tup.mpr ⟨p, vs, rfl, SqT.of upd_same, x.mono (same_new (R1.gnone hp))⟩) q.2⟩
theorem we_lst (h : WA Z tx ρ M fun ds M1 => ds.length ≤ sizeLine ∧ Q2 (.lst ds) M1) : WE Z (tLst tx) ρ M Q2 := fun G σ H Q s R E r =>
  h G σ H _ s R E fun ds vs G1 M1 H1 s1 R1 x q => ⟨by rw [x.length]; exact q.1, fun p hp =>
    r _ _ (upd G1 p (.lst vs)) M1 _ (s1.trans (same_new (R1.gnone hp))) (R1.new hp) (dat_lst.mpr ⟨p, vs, rfl, upd_same, x.mono (same_new (R1.gnone hp))⟩) q.2⟩
/-- a new list that may change -/
theorem we_lstM (h : WA Z tx ρ M fun ds M1 => ds.length ≤ sizeLine ∧ ∀ p, M1 p = none → Q2 (.r p) (updM M1 p (.lst ds))) : WE Z (tLst tx) ρ M Q2 := fun G σ H Q s R E r =>
  h G σ H _ s R E fun ds vs G1 M1 H1 s1 R1 x q => ⟨by rw [x.length]; exact q.1, fun p hp =>
    r _ _ G1 _ _ s1 (R1.newM (mo := .lst ds) hp ⟨vs, upd_same, x⟩) dat_v' (q.2 p (R1.mnone hp))⟩
theorem we_cb {r : List V → Hp → VK → Prop} (h : WA Z tx ρ M fun ds M1 => WC Z r ds M1 Q2) : WE Z (tCB r tx) ρ M Q2 := fun G σ H Q s R E rt =>
  h G σ H _ s R E fun ds vs G1 M1 H1 s1 R1 x q => q G1 H1 vs Q (s.trans s1) R1 x (rt.mono s1)
theorem ws_next (h : D2.nx ρ M) : WS Z tNext D2 ρ M := fun G σ H D s R E e => e.nx ρ σ G M H (Same.refl G) R E h
theorem WS.imp {D2' : Ends2} (h : WS Z ts D2 ρ M) (hn : ∀ ρ' M', D2.nx ρ' M' → D2'.nx ρ' M') (hr : ∀ d M', D2.rt d M' → D2'.rt d M') (hb : ∀ ρ' M', D2.bk ρ' M' → D2'.bk ρ' M') (hc : ∀ ρ' M', D2.ct ρ' M' → D2'.ct ρ' M') : WS Z ts D2' ρ M :=
  fun G σ H D s R E e => h G σ H D s R E ⟨fun ρ' σ' G' M' H' s' R' E' q => e.nx ρ' σ' G' M' H' s' R' E' (hn _ _ q), fun d v G' M' H' s' R' x q => e.rt d v G' M' H' s' R' x (hr _ _ q), fun ρ' σ' G' M' H' s' R' E' q => e.bk ρ' σ' G' M' H' s' R' E' (hb _ _ q), fun ρ' σ' G' M' H' s' R' E' q => e.ct ρ' σ' G' M' H' s' R' E' (hc _ _ q)⟩
theorem ws_seq (h : WS Z ts { D2 with nx := fun ρ' M' => WS Z tr D2 ρ' M' } ρ M) : WS Z (tSeq ts tr) D2 ρ M := fun G σ H D s R E e =>
  h G σ H _ s R E ⟨fun ρ' σ' G' M' H' s' R' E' q => q G' σ' H' D (s.trans s') R' E' (e.mono s'), e.rt, e.bk, e.ct⟩
theorem ws_drop (h : WE Z te ρ M fun _ M1 => D2.nx ρ M1) : WS Z (tDrop te) D2 ρ M := fun G σ H D s R E e =>
  h G σ H _ s R E fun d v G1 M1 H1 s1 R1 x q => e.nx ρ σ G1 M1 H1 s1 R1 (E.mono s1) q
theorem ws_ret (h : WE Z te ρ M D2.rt) : WS Z (tRet te) D2 ρ M := fun G σ H D s R E e => h G σ H _ s R E e.rt
theorem ws_if (h : WT Z tt ρ M fun b M1 => if b = true then WS Z ts D2 ρ M1 else WS Z tr D2 ρ M1) : WS Z (tIfS tt ts tr) D2 ρ M := fun G σ H D s R E e =>
  h G σ H _ s R E fun b G1 M1 H1 s1 R1 q => by
    cases b with
    | true => exact q G1 σ H1 D (s.trans s1) R1 (E.mono s1) (e.mono s1)
    | false => exact q G1 σ H1 D (s.trans s1) R1 (E.mono s1) (e.mono s1)
def WG (Z : Zn) (g : TG) (d : DV) (ρ : Ro) (M : Mu) (P2 : Ro → Mu → Prop) : Prop :=
  ∀ G σ H v P, Same Z.G G → Rep Z.W G M Z.F H → EnvOk Z.W G ρ σ → Dat Z.W G d v → NxOk Z.W G Z.F P2 P → g v σ H P
def WGs (Z : Zn) (g : TGs) (ds : List DV) (ρ : Ro) (M : Mu) (P2 : Ro → Mu → Prop) : Prop :=
  ∀ G σ H vs P, Same Z.G G → Rep Z.W G M Z.F H → EnvOk Z.W G ρ σ → DatL Z.W G ds vs → NxOk Z.W G Z.F P2 P → g vs σ H P
theorem wg_name {i : Nat} {d : DV} {P2 : Ro → Mu → Prop} (h : P2 (ρ.set i (some d)) M) : WG Z (gName i) d ρ M P2 := fun G σ H v P s R E x n =>
  n _ _ G M H (Same.refl G) R (E.set x) h
theorem wgs_nil {P2 : Ro → Mu → Prop} (h : P2 ρ M) : WGs Z gNil [] ρ M P2 := fun G σ H vs P s R E x n => ⟨datL_nil.mp x, n _ _ G M H (Same.refl G) R E h⟩
theorem wgs_cons {g : TG} {gs : TGs} {d : DV} {ds : List DV} {P2 : Ro → Mu → Prop} (h : WG Z g d ρ M fun ρ1 M1 => WGs Z gs ds ρ1 M1 P2) : WGs Z (gCons g gs) (d :: ds) ρ M P2 := fun G σ H vs P s R E x n => by
  obtain ⟨v, r, e, hv, hr⟩ := datL_cons.mp x
  exact ⟨v, r, e, h G σ H v _ s R E hv fun ρ1 σ1 G1 M1 H1 s1 R1 E1 q => q G1 σ1 H1 r P (s.trans s1) R1 E1 (hr.mono s1) (n.mono s1)⟩
theorem wg_tup {n : Nat} {gs : TGs} {ds : List DV} {P2 : Ro → Mu → Prop} (hn : ds.length = n) (h : WGs Z gs ds ρ M P2) : WG Z (gTup Z.W.K n gs) (.tup ds) ρ M P2 := fun G σ H v P s R E x k => by
  obtain ⟨a, xs, e, h1, h2⟩ := dat_tup.mp x
  exact ⟨a, xs, e, sqt_mono R.ex h1, by rw [h2.length]; exact hn, h G σ H xs P s R E h2 k⟩
theorem ws_asg {g : TG} (h : WE Z te ρ M fun d M1 => WG Z g d ρ M1 D2.nx) : WS Z (tAsg te g) D2 ρ M := fun G σ H D s R E e =>
  h G σ H _ s R E fun d v G1 M1 H1 s1 R1 x q => q G1 σ H1 v _ (s.trans s1) R1 (E.mono s1) x (e.nx.mono s1)
theorem ws_set {i : Nat} (h : WE Z te ρ M fun d M1 => D2.nx (ρ.set i (some d)) M1) : WS Z (tAsg te (gName i)) D2 ρ M := ws_asg (h.imp fun d M' q => wg_name q)
end
end DL
set_option Elab.async false
set_option linter.all false
set_option maxRecDepth 100000
set_option maxHeartbeats 2000000
namespace DL
open PySem PySem.Spec PyProof.Rows L2
def LstOf (M : Mu) (d : DV) (ds : List DV) : Prop := d = .lst ds ∨ ∃ a, d = .r a ∧ M a = some (.lst ds)
theorem LstOf.mu {M : Mu} {a : Addr} {ds : List DV} (h : M a = some (.lst ds)) : LstOf M (.r a) ds := .inr ⟨a, rfl, h⟩
def SqOf (M : Mu) (d : DV) (ds : List DV) : Prop := LstOf M d ds ∨ d = .tup ds
theorem SqOf.tp {M : Mu} {ds : List DV} : SqOf M (.tup ds) ds := .inr rfl
theorem SqOf.mu {M : Mu} {a : Addr} {ds : List DV} (h : M a = some (.lst ds)) : SqOf M (.r a) ds := .inl (.mu h)
section
variable {W : Wd} {Z : Zn} {G G' F : Hp} {ρ : Ro} {σ : L2.St} {M : Mu} {H : Hp} {te ta tb tc : TE} {tt tu : TT} {ts tr : TS} {tx : TA} {Q2 Q2' : DQ} {D2 : Ends2} {d e x y : DV} {ds es : List DV} {v : V}
theorem lst_at (R : Rep W G M F H) (h : Dat W G d v) (l : LstOf M d ds) : ∃ a xs, v = .ref a ∧ H a = some (.lst xs) ∧ DatL W G ds xs := by
  rcases l with rfl | ⟨a, rfl, hm⟩
  · obtain ⟨a, xs, h1, h2, h3⟩ := dat_lst.mp h
    exact ⟨a, xs, h1, R.ex _ _ h2, h3⟩
  · obtain ⟨xs, h1, h2⟩ := (R.mu a _ hm).2
    exact ⟨a, xs, dat_v.mp h, h1, h2⟩
theorem sq_at {K : PySem.W.Frag} (hK : K = W.K) (R : Rep W G M F H) (h : Dat W G d v) (l : SqOf M d ds) : ∃ a xs, v = .ref a ∧ (SqL K H a xs ∨ SqT K H a xs) ∧ DatL W G ds xs := by
  subst hK
  rcases l with l | rfl
  · obtain ⟨a, xs, h1, h2, h3⟩ := lst_at R h l
    exact ⟨a, xs, h1, .inl (SqL.of h2), h3⟩
  · obtain ⟨a, xs, h1, h2, h3⟩ := dat_tup.mp h
    exact ⟨a, xs, h1, .inr (sqt_mono R.ex h2), h3⟩
theorem atI_dat {xs : List V} {k : Int} (h : DatL W G ds xs) (e1 : atI ds k = some e) : ∃ y, atI xs k = some y ∧ Dat W G e y := by
  unfold atI at e1 ⊢
  rw [h.length]
  cases q : ixN ds.length k with
  | none => rw [q] at e1; cases e1
  | some j =>
    rw [q] at e1
    obtain ⟨y, h1, h2⟩ := h.get (i := j) e1
    exact ⟨y, h1, h2⟩
theorem wr_ixL {k : Int} (l : LstOf M d ds) (h1 : atI ds k = some e) (h : Q2 e M) : WR Z (rIxL Z.W.K) d (.i k) M Q2 := fun G H vx vy Q s R dx dy r => by
  obtain ⟨a, xs, e1, e2, e3⟩ := lst_at R dx l
  obtain ⟨y, h2, h3⟩ := atI_dat e3 h1
  exact ⟨a, xs, k, y, e1, dat_v.mp dy, SqL.of e2, h2, r _ _ G M H (Same.refl G) R h3 h⟩
theorem wr_ixT {k : Int} (h1 : atI ds k = some e) (h : Q2 e M) : WR Z (rIxT Z.W.K) (.tup ds) (.i k) M Q2 := fun G H vx vy Q s R dx dy r => by
  obtain ⟨a, xs, e1, e2, e3⟩ := dat_tup.mp dx
  obtain ⟨y, h2, h3⟩ := atI_dat e3 h1
  exact ⟨a, xs, k, y, e1, dat_v.mp dy, sqt_mono R.ex e2, h2, r _ _ G M H (Same.refl G) R h3 h⟩
theorem wr_ixS {z : Str} {k : Int} {c : Nat} (hz : z.length ≤ sizeLine) (h1 : atI z.cps.toList k = some c) (h : Q2 (.s ⟨#[c]⟩) M) : WR Z rIxS (.s z) (.i k) M Q2 := fun G H vx vy Q s R dx dy r =>
  ⟨z, k, c, dat_v.mp dx, dat_v.mp dy, hz, h1, r _ _ G M H (Same.refl G) R dat_v' h⟩
theorem wc_len (l : SqOf M d ds) (h : Q2 (.i (ds.length : Nat)) M) : WC Z (fun xs H Q => ∃ p ys, xs = [.ref p] ∧ (SqL Z.W.K H p ys ∨ SqT Z.W.K H p ys) ∧ Q (.int ys.length) H) [d] M Q2 := fun G H vs Q s R x r => by
  obtain ⟨y, rr, e1, h1, h2⟩ := datL_cons.mp x
  rw [datL_nil.mp h2] at e1
  obtain ⟨a, xs, e2, e3, e4⟩ := sq_at rfl R h1 l
  subst e1 e2
  refine ⟨a, xs, rfl, e3, ?_⟩
  rw [e4.length]
  exact r _ _ G M H (Same.refl G) R dat_v' h
theorem one_of {xs : List V} (h : DatL W G [d] xs) : ∃ y, xs = [y] ∧ Dat W G d y := by
  obtain ⟨y, rr, e1, h1, h2⟩ := datL_cons.mp h
  rw [datL_nil.mp h2] at e1
  exact ⟨y, e1, h1⟩
theorem two_of {xs : List V} (h : DatL W G [d, e] xs) : ∃ y z, xs = [y, z] ∧ Dat W G d y ∧ Dat W G e z := by
  obtain ⟨y, rr, e1, h1, h2⟩ := datL_cons.mp h
  obtain ⟨z, e2, h3⟩ := one_of h2
  subst e2
  exact ⟨y, z, e1, h1, h3⟩
theorem wc_lenS {z : Str} (hz : z.length ≤ sizeLine) (h : Q2 (.i (z.length : Nat)) M) : WC Z (fun xs H Q => ∃ z, xs = [.str z] ∧ z.length ≤ sizeLine ∧ Q (.int z.length) H) [.s z] M Q2 := fun G H vs Q s R x r => by
  obtain ⟨y, e1, h1⟩ := one_of x
  rw [dat_v.mp h1] at e1
  exact ⟨z, e1, hz, r _ _ G M H (Same.refl G) R dat_v' h⟩
/-- list(..): frozen -/
theorem wc_list (l : SqOf M d ds) (h : Q2 (.lst ds) M) : WC Z (fun xs H Q => ∃ p ys, xs = [.ref p] ∧ (SqL Z.W.K H p ys ∨ SqT Z.W.K H p ys) ∧ ∀ l, H l = none → Q (.ref l) (upd H l (.lst ys))) [d] M Q2 := fun G H vs Q s R x r => by
  obtain ⟨y, e1, h1⟩ := one_of x
  obtain ⟨a, xs, e2, e3, e4⟩ := sq_at rfl R h1 l
  subst e1 e2
  exact ⟨a, xs, rfl, e3, fun p hp => r _ _ (upd G p (.lst xs)) M _ (same_new (R.gnone hp)) (R.new hp) (dat_lst.mpr ⟨p, xs, rfl, upd_same, e4.mono (same_new (R.gnone hp))⟩) h⟩
/-- list(..): may change -/
theorem wc_listM (l : SqOf M d ds) (h : ∀ p, M p = none → Q2 (.r p) (updM M p (.lst ds))) : WC Z (fun xs H Q => ∃ p ys, xs = [.ref p] ∧ (SqL Z.W.K H p ys ∨ SqT Z.W.K H p ys) ∧ ∀ l, H l = none → Q (.ref l) (upd H l (.lst ys))) [d] M Q2 := fun G H vs Q s R x r => by
  obtain ⟨y, e1, h1⟩ := one_of x
  obtain ⟨a, xs, e2, e3, e4⟩ := sq_at rfl R h1 l
  subst e1 e2
  exact ⟨a, xs, rfl, e3, fun p hp => r _ _ G _ _ (Same.refl G) (R.newM (mo := .lst ds) hp ⟨xs, upd_same, e4⟩) dat_v' (h p (R.mnone hp))⟩
theorem wc_tuple (l : SqOf M d ds) (h : Q2 (.tup ds) M) : WC Z (fun xs H Q => ∃ p ys, xs = [.ref p] ∧ ((SqL Z.W.K H p ys ∧ ∀ l, H l = none → Q (.ref l) (upd H l (.tup ys))) ∨ (SqT Z.W.K H p ys ∧ Q (.ref p) H))) [d] M Q2 := fun G H vs Q s R x r => by
  obtain ⟨y, e1, h1⟩ := one_of x
  subst e1
  rcases l with l | rfl
  · obtain ⟨a, xs, e2, e3, e4⟩ := lst_at R h1 l
    subst e2
    exact ⟨a, xs, rfl, .inl ⟨SqL.of e3, fun p hp => r _ _ (upd G p (.tup xs)) M _ (same_new (R.gnone hp)) (R.new hp) (dat_tup.mpr ⟨p, xs, rfl, SqT.of upd_same, e4.mono (same_new (R.gnone hp))⟩) h⟩⟩
  · obtain ⟨a, xs, e2, e3, e4⟩ := dat_tup.mp h1
    subst e2
    exact ⟨a, xs, rfl, .inr ⟨sqt_mono R.ex e3, r _ _ G M H (Same.refl G) R h1 h⟩⟩
def WM (Z : Zn) (r : V → List V → Hp → VK → Prop) (x : DV) (xs : List DV) (M : Mu) (Q2 : DQ) : Prop :=
  ∀ G H vx vs Q, Same Z.G G → Rep Z.W G M Z.F H → Dat Z.W G x vx → DatL Z.W G xs vs → RetOk Z.W G Z.F Q2 Q → r vx vs H Q
def TyOk (W : Wd) (T : String) (M : Mu) (d : DV) : Prop := ∀ G F H v, Rep W G M F H → Dat W G d v → tyV W.K T v H
theorem tyOk_lst (l : LstOf M d ds) : TyOk W "list" M d := fun G F H v R h => by
  obtain ⟨a, xs, e1, e2, e3⟩ := lst_at R h l
  subst e1
  exact .inl ⟨rfl, xs, SqL.of e2⟩
theorem tyOk_str {z : Str} : TyOk W "str" M (.s z) := fun G F H v R h => by
  rw [dat_v.mp h]
  rfl
theorem we_bm {T : String} {r : V → List V → Hp → VK → Prop} (h : WE Z te ρ M fun d M1 => TyOk Z.W T M1 d ∧ WA Z tx ρ M1 fun ds M2 => WM Z r d ds M2 Q2) : WE Z (tBM Z.W.K T r te tx) ρ M Q2 := fun G σ H Q s R E rt =>
  h G σ H _ s R E fun d v G1 M1 H1 s1 R1 x q => ⟨q.1 G1 Z.F H1 v R1 x, q.2 G1 σ H1 _ (s.trans s1) R1 (E.mono s1) fun ds vs G2 M2 H2 s2 R2 xs q2 =>
    q2 G2 H2 v vs Q ((s.trans s1).trans s2) R2 (x.mono s2) xs (rt.mono (s1.trans s2))⟩
theorem we_bm0 {T : String} {r : V → List V → Hp → VK → Prop} (h : WE Z te ρ M fun d M1 => TyOk Z.W T M1 d ∧ WM Z r d [] M1 Q2) : WE Z (tBM0 Z.W.K T r te) ρ M Q2 := fun G σ H Q s R E rt =>
  h G σ H _ s R E fun d v G1 M1 H1 s1 R1 x q => ⟨q.1 G1 Z.F H1 v R1 x, q.2 G1 H1 v [] Q (s.trans s1) R1 x datL_nil' (rt.mono s1)⟩
theorem wm_append {a : Addr} (hm : M a = some (.lst ds)) (hz : ds.length < sizeLine) (h : Q2 .n (updM M a (.lst (ds ++ [e])))) : WM Z rAppend (.r a) [e] M Q2 := fun G H vx vs Q s R x xs r => by
  obtain ⟨y, e1, h1⟩ := one_of xs
  obtain ⟨ys, h2, h3⟩ := (R.mu a _ hm).2
  refine ⟨a, ys, y, dat_v.mp x, e1, h2, by rw [h3.length]; exact hz, ?_⟩
  exact r _ _ G _ _ (Same.refl G) (R.write (mo' := .lst (ds ++ [e])) hm ⟨_, upd_same, h3.append (datL_cons' h1 datL_nil')⟩) dat_v' h
theorem wr_cat (l : LstOf M x ds) (k : LstOf M y es) (hz : ds.length + es.length ≤ sizeLine) (h : Q2 (.lst (ds ++ es)) M) : WR Z rCat x y M Q2 := fun G H vx vy Q s R dx dy r => by
  obtain ⟨a, xs, e1, e2, e3⟩ := lst_at R dx l
  obtain ⟨b, ys, f1, f2, f3⟩ := lst_at R dy k
  exact ⟨a, b, xs, ys, e1, f1, e2, f2, by rw [e3.length, f3.length]; exact hz, fun p hp =>
    r _ _ (upd G p (.lst (xs ++ ys))) M _ (same_new (R.gnone hp)) (R.new hp) (dat_lst.mpr ⟨p, _, rfl, upd_same, (e3.append f3).mono (same_new (R.gnone hp))⟩) h⟩
theorem datL_flat {xs : List V} (h : DatL W G ds xs) : ∀ n : Nat, DatL W G (List.replicate n ds).flatten (List.replicate n xs).flatten
  | 0 => datL_nil'
  | n + 1 => by
    rw [List.replicate_succ, List.replicate_succ, List.flatten_cons, List.flatten_cons]
    exact h.append (datL_flat h n)
theorem wr_rep {k : Int} (l : LstOf M x ds) (h1 : -(2 ^ 63) ≤ k) (h2 : k < 2 ^ 63) (hz : ds.length * k.toNat ≤ sizeLine) (h : Q2 (.lst (List.replicate k.toNat ds).flatten) M) : WR Z rRep x (.i k) M Q2 := fun G H vx vy Q s R dx dy r => by
  obtain ⟨a, xs, e1, e2, e3⟩ := lst_at R dx l
  exact ⟨a, k, xs, e1, dat_v.mp dy, e2, h1, h2, by rw [e3.length]; exact hz, fun p hp =>
    r _ _ (upd G p _) M _ (same_new (R.gnone hp)) (R.new hp) (dat_lst.mpr ⟨p, _, rfl, upd_same, (datL_flat e3 _).mono (same_new (R.gnone hp))⟩) h⟩
/-- an optional bound -/
def WO (Z : Zn) (t : TO) (ρ : Ro) (M : Mu) (Q2 : Option Int → Mu → Prop) : Prop :=
  ∀ G σ H Q, Same Z.G G → Rep Z.W G M Z.F H → EnvOk Z.W G ρ σ → (∀ o G' M' H', Same G G' → Rep Z.W G' M' Z.F H' → Q2 o M' → Q o H') → t σ H Q
theorem wo_none {P : Option Int → Mu → Prop} (h : P none M) : WO Z tNoPart ρ M P := fun G σ H Q s R E r => r none G M H (Same.refl G) R h
theorem wo_some {P : Option Int → Mu → Prop} (h : WE Z te ρ M fun d M1 => ∃ i, d = .i i ∧ P (some i) M1) : WO Z (tPart te) ρ M P := fun G σ H Q s R E r =>
  h G σ H _ s R E fun d v G1 M1 H1 s1 R1 x q => by
    obtain ⟨i, rfl, q⟩ := q
    exact ⟨i, dat_v.mp x, r _ G1 M1 H1 s1 R1 q⟩
def WL (Z : Zn) (r : V → Option Int → Option Int → Hp → VK → Prop) (x : DV) (lo hi : Option Int) (M : Mu) (Q2 : DQ) : Prop :=
  ∀ G H vx Q, Same Z.G G → Rep Z.W G M Z.F H → Dat Z.W G x vx → RetOk Z.W G Z.F Q2 Q → r vx lo hi H Q
theorem we_sl {r : V → Option Int → Option Int → Hp → VK → Prop} {tl th : TO} (h : WE Z te ρ M fun d M1 => WO Z tl ρ M1 fun lo M2 => WO Z th ρ M2 fun hi M3 => WL Z r d lo hi M3 Q2) : WE Z (tSl r te tl th) ρ M Q2 := fun G σ H Q s R E rt =>
  h G σ H _ s R E fun d v G1 M1 H1 s1 R1 x q => q G1 σ H1 _ (s.trans s1) R1 (E.mono s1) fun lo G2 M2 H2 s2 R2 q2 => q2 G2 σ H2 _ ((s.trans s1).trans s2) R2 ((E.mono s1).mono s2) fun hi G3 M3 H3 s3 R3 q3 =>
    q3 G3 H3 v Q (((s.trans s1).trans s2).trans s3) R3 ((x.mono s2).mono s3) (rt.mono ((s1.trans s2).trans s3))
def cutD {α : Type} (xs : List α) (lo hi : Option Int) : List α := (xs.drop (HT.sIx xs.length 0 lo)).take (HT.sIx xs.length xs.length hi - HT.sIx xs.length 0 lo)
theorem datL_cut {xs : List V} (lo hi : Option Int) (h : DatL W G ds xs) : DatL W G (cutD ds lo hi) (cutV xs lo hi) := by
  unfold cutD cutV
  rw [h.length]
  exact (h.drop _).take _
theorem wl_list {lo hi : Option Int} (l : LstOf M x ds) (h : Q2 (.lst (cutD ds lo hi)) M) : WL Z (rSlL Z.W.K) x lo hi M Q2 := fun G H vx Q s R dx r => by
  obtain ⟨a, xs, e1, e2, e3⟩ := lst_at R dx l
  exact ⟨a, xs, e1, SqL.of e2, fun p hp =>
    r _ _ (upd G p _) M _ (same_new (R.gnone hp)) (R.new hp) (dat_lst.mpr ⟨p, _, rfl, upd_same, (datL_cut lo hi e3).mono (same_new (R.gnone hp))⟩) h⟩
/-- of a thing that stands in the frozen heap at the beginning (the script) -/
theorem wl_list0 {lo hi : Option Int} {a : Addr} {xs : List V} (hs : SqL Z.W.K Z.G a xs) (h : Q2 (.lst ((cutV xs lo hi).map DV.v)) M) : WL Z (rSlL Z.W.K) (.r a) lo hi M Q2 := fun G H vx Q s R dx r =>
  ⟨a, xs, dat_v.mp dx, sql_mono R.ex (sql_mono s hs), fun p hp =>
    r _ _ (upd G p _) M _ (same_new (R.gnone hp)) (R.new hp) (dat_lst.mpr ⟨p, _, rfl, upd_same, datL_v _⟩) h⟩
theorem we_chain {r r' : R2} (h : WE Z ta ρ M fun x M1 => WE Z tb ρ M1 fun y M2 => WR Z r x y M2 fun z M3 => ∃ k, z = .b k ∧ if k = true then WE Z tc ρ M3 fun w M4 => WR Z r' y w M4 Q2 else Q2 (.b false) M3) : WE Z (tChain r r' ta tb tc) ρ M Q2 := fun G σ H Q s R E rt =>
  h G σ H _ s R E fun x vx G1 M1 H1 s1 R1 dx h1 => h1 G1 σ H1 _ (s.trans s1) R1 (E.mono s1) fun y vy G2 M2 H2 s2 R2 dy h2 =>
    h2 G2 H2 vx vy _ ((s.trans s1).trans s2) R2 (dx.mono s2) dy fun z vz G3 M3 H3 s3 R3 dz h3 => by
      obtain ⟨k, rfl, h3⟩ := h3
      refine ⟨k, dat_v.mp dz, ?_⟩
      cases k with
      | false => exact rt _ _ G3 M3 H3 ((s1.trans s2).trans s3) R3 dat_v' h3
      | true =>
        refine h3 G3 σ H3 _ (((s.trans s1).trans s2).trans s3) R3 (((E.mono s1).mono s2).mono s3) fun w vw G4 M4 H4 s4 R4 dw h4 => ?_
        exact h4 G4 H4 vy vw Q ((((s.trans s1).trans s2).trans s3).trans s4) R4 ((dy.mono s3).mono s4) dw (rt.mono (((s1.trans s2).trans s3).trans s4))
theorem datL_bl : ∀ {bs : List Bool} {xs : List V}, DatL W G (bs.map DV.b) xs → xs = bs.map V.bl
  | [], xs, h => datL_nil.mp h
  | b :: bs, xs, h => by
    obtain ⟨y, r, e1, h1, h2⟩ := datL_cons.mp h
    rw [e1, dat_v.mp h1, datL_bl h2]
    rfl
theorem datL_int : ∀ {bs : List Int} {xs : List V}, DatL W G (bs.map DV.i) xs → xs = bs.map V.int
  | [], xs, h => datL_nil.mp h
  | b :: bs, xs, h => by
    obtain ⟨y, r, e1, h1, h2⟩ := datL_cons.mp h
    rw [e1, dat_v.mp h1, datL_int h2]
    rfl
theorem datL_str : ∀ {bs : List Str} {xs : List V}, DatL W G (bs.map DV.s) xs → xs = bs.map V.str
  | [], xs, h => datL_nil.mp h
  | b :: bs, xs, h => by
    obtain ⟨y, r, e1, h1, h2⟩ := datL_cons.mp h
    rw [e1, dat_v.mp h1, datL_str h2]
    rfl
theorem wc_all {bs : List Bool} (l : LstOf M d (bs.map DV.b)) (h : Q2 (.b (bs.all id)) M) : WC Z (rAll Z.W.K) [d] M Q2 := fun G H vs Q s R x r => by
  obtain ⟨y, e1, h1⟩ := one_of x
  obtain ⟨a, xs, e2, e3, e4⟩ := lst_at R h1 l
  rw [datL_bl e4] at e3
  subst e1 e2
  exact ⟨a, bs, rfl, SqL.of e3, r _ _ G M H (Same.refl G) R dat_v' h⟩
end
end DL
set_option Elab.async false
set_option linter.all false
set_option maxRecDepth 100000
set_option maxHeartbeats 2000000
namespace DL
open PySem PySem.Spec PyProof.Rows L2
def MO.frz : MO → DV
  | .lst ds => .lst ds
  | .ins C ns ds => .obj C ns ds
  | .dk ks ds => .dk ks ds
  | .dl ks ds => .dl ks ds
  | .pre _ => .n
  | .tab _ => .n
  | .ext _ => .n
def MO.solid : MO → Prop
  | .pre _ => False
  | .tab _ => False
  | .ext _ => False
  | _ => True
section
variable {W : Wd} {Z : Zn} {G G' F : Hp} {ρ : Ro} {σ : L2.St} {M : Mu} {H : Hp} {te ta tb tc : TE} {tt tu : TT} {ts tr : TS} {tx : TA} {Q2 Q2' : DQ} {D2 : Ends2} {d e x y : DV} {ds es : List DV} {v : V}
theorem Rep.freeze {a : Addr} {mo : MO} (R : Rep W G M F H) (hm : M a = some mo) (so : mo.solid) : ∃ G', Same G G' ∧ Rep W G' (delM M a) F H ∧ Dat W G' mo.frz (.ref a) := by
  obtain ⟨g0, at_⟩ := R.mu a mo hm
  have fa : F a = none := by
    cases q : F a with
    | none => rfl
    | some o => rw [(R.fd a o q).2] at hm; cases hm
  have main : ∀ u, H a = some u → Rep W (upd G a u) (delM M a) F H := fun u hu => {
    ex := fun b o e => by
      by_cases h : b = a
      · subst h; rw [upd_same] at e; rw [← e]; exact hu
      · rw [upd_ne h] at e; exact R.ex b o e
    fr := R.fr
    fd := fun b o e => by
      have ne : b ≠ a := fun z => by subst z; rw [fa] at e; cases e
      rw [upd_ne ne, delM_ne ne]; exact R.fd b o e
    mu := fun b o e => by
      have ne : b ≠ a := fun z => by subst z; rw [delM_same] at e; cases e
      rw [delM_ne ne] at e
      obtain ⟨h1, h2⟩ := R.mu b o e
      exact ⟨by rw [upd_ne ne]; exact h1, h2.mono (same_new g0)⟩ }
  cases mo with
  | lst ds =>
    obtain ⟨xs, h1, h2⟩ := at_
    exact ⟨_, same_new g0, main _ h1, dat_lst.mpr ⟨a, xs, rfl, upd_same, h2.mono (same_new g0)⟩⟩
  | ins C ns ds =>
    obtain ⟨dx, xs, h1, h2, h3⟩ := at_
    exact ⟨_, same_new g0, main _ h1, dat_obj.mpr ⟨a, dx, xs, rfl, upd_same, h2, h3.mono (same_new g0)⟩⟩
  | dk ks ds =>
    obtain ⟨xs, h1, h2, h3⟩ := at_
    exact ⟨_, same_new g0, main _ h1, dat_dk.mpr ⟨a, xs, rfl, .inl upd_same, h2, h3.mono (same_new g0)⟩⟩
  | dl ks ds =>
    obtain ⟨xs, h1, h2, h3⟩ := at_
    exact ⟨_, same_new g0, main _ h1, dat_dl.mpr ⟨a, xs, rfl, upd_same, h2, h3.mono (same_new g0)⟩⟩
  | pre P => exact so.elim
  | tab q => exact so.elim
  | ext x => exact so.elim
/-- what an expression gives is frozen at once -/
theorem we_frz (h : WE Z te ρ M fun d M1 => ∃ a mo, d = .r a ∧ M1 a = some mo ∧ mo.solid ∧ Q2 mo.frz (delM M1 a)) : WE Z te ρ M Q2 := fun G σ H Q s R E r =>
  h G σ H Q s R E fun d v G1 M1 H1 s1 R1 x q => by
    obtain ⟨a, mo, rfl, hm, so, q⟩ := q
    obtain ⟨G2, s2, R2, x2⟩ := R1.freeze hm so
    rw [dat_v.mp x]
    exact r _ _ G2 _ H1 (s1.trans s2) R2 x2 q
/-- the thing in a slot is frozen -/
theorem ws_frz (i : Nat) {a : Addr} {mo : MO} (hi : ρ[i]? = some (some (.r a))) (hm : M a = some mo) (so : mo.solid) (h : WS Z ts D2 (ρ.set i (some mo.frz)) (delM M a)) : WS Z ts D2 ρ M := fun G σ H D s R E e => by
  obtain ⟨G2, s2, R2, x2⟩ := R.freeze hm so
  have E2 := (E.mono s2).set (i := i) x2
  obtain ⟨v, h1, h2⟩ := E.get i _ hi
  rw [dat_v.mp h2] at h1
  have es : σ.set i (some (.ref a)) = σ := by
    apply List.ext_getElem?
    intro j
    by_cases q : i = j
    · subst q
      rw [List.getElem?_set_self (List.getElem?_eq_some_iff.mp h1).1, h1]
    · rw [List.getElem?_set_ne q]
  rw [es] at E2
  exact h G2 σ H D (s.trans s2) R2 E2 (e.mono s2)
def ObjOf (M : Mu) (d : DV) (C : Addr) (ns : List Str) (ds : List DV) : Prop := d = .obj C ns ds ∨ ∃ a, d = .r a ∧ M a = some (.ins C ns ds)
theorem ObjOf.mu {a C : Addr} {ns : List Str} (h : M a = some (.ins C ns ds)) : ObjOf M (.r a) C ns ds := .inr ⟨a, rfl, h⟩
theorem obj_at {C : Addr} {ns : List Str} (R : Rep W G M F H) (h : Dat W G d v) (l : ObjOf M d C ns ds) : ∃ a dx xs, v = .ref a ∧ H a = some (.ins C dx (ns.zip xs)) ∧ ns.length = ds.length ∧ DatL W G ds xs := by
  rcases l with rfl | ⟨a, rfl, hm⟩
  · obtain ⟨a, dx, xs, h1, h2, h3, h4⟩ := dat_obj.mp h
    exact ⟨a, dx, xs, h1, R.ex _ _ h2, h3, h4⟩
  · obtain ⟨dx, xs, h1, h2, h3⟩ := (R.mu a _ hm).2
    exact ⟨a, dx, xs, dat_v.mp h, h1, h2, h3⟩
theorem zip_look : ∀ {ns : List Str} {ds : List DV} {xs : List V} {f : Str}, DatL W G ds xs → ∀ {e : DV}, (ns.zip ds).lookup f = some e → ∃ y, (ns.zip xs).lookup f = some y ∧ Dat W G e y
  | [], ds, xs, f, h, e, q => by simp at q
  | n :: ns, [], xs, f, h, e, q => by simp at q
  | n :: ns, d :: ds, xs, f, h, e, q => by
    obtain ⟨y, r, e1, h1, h2⟩ := datL_cons.mp h
    subst e1
    rw [List.zip_cons_cons, List.lookup_cons] at q ⊢
    cases z : f == n with
    | true => rw [z] at q; cases q; exact ⟨y, rfl, h1⟩
    | false => rw [z] at q; exact zip_look h2 q
theorem zip_none : ∀ {ns : List Str} {ds : List DV} {xs : List V} {f : Str}, DatL W G ds xs → (ns.zip ds).lookup f = none → (ns.zip xs).lookup f = none
  | [], ds, xs, f, h, q => by simp
  | n :: ns, [], xs, f, h, q => by rw [datL_nil.mp h]; simp
  | n :: ns, d :: ds, xs, f, h, q => by
    obtain ⟨y, r, e1, h1, h2⟩ := datL_cons.mp h
    subst e1
    rw [List.zip_cons_cons, List.lookup_cons] at q ⊢
    cases z : f == n with
    | true => rw [z] at q; cases q
    | false => rw [z] at q; exact zip_none h2 q
theorem we_fld {f : Str} (h : WE Z te ρ M fun d M1 => ∃ C ns ds e, ObjOf M1 d C ns ds ∧ Cls Z.W.K C ∧ NoAttr Z.W.K C f ∧ (ns.zip ds).lookup f = some e ∧ Q2 e M1) : WE Z (tFld Z.W.K te f) ρ M Q2 := fun G σ H Q s R E r =>
  h G σ H _ s R E fun d v G1 M1 H1 s1 R1 x q => by
    obtain ⟨C, ns, ds, e, o, c, n, l, q⟩ := q
    obtain ⟨a, dx, xs, e1, e2, e3, e4⟩ := obj_at R1 x o
    obtain ⟨y, l1, l2⟩ := zip_look e4 l
    exact ⟨a, C, dx, _, y, e1, e2, c, n, l1, r _ _ G1 M1 H1 s1 R1 l2 q⟩
/-- a field is stored -/
def putN (f : Str) : List Str → List Str
  | [] => [f]
  | n :: ns => if n = f then n :: ns else n :: putN f ns
def putD (f : Str) (e : DV) : List Str → List DV → List DV
  | [], _ => [e]
  | n :: ns, [] => []
  | n :: ns, d :: ds => if n = f then e :: ds else d :: putD f e ns ds
theorem putF_eq (f : Str) (v : V) (l : List (Str × V)) : putF f v l = match l with
  | [] => [(f, v)]
  | (n, x) :: r => if n = f then (n, v) :: r else (n, x) :: putF f v r := by
  cases l with
  | nil => rfl
  | cons p r => cases p; rfl
theorem put_len : ∀ {ns : List Str} {ds : List DV} {f : Str} {e : DV}, ns.length = ds.length → (putN f ns).length = (putD f e ns ds).length
  | [], [], f, e, h => rfl
  | [], _ :: _, f, e, h => by simp at h
  | n :: ns, [], f, e, h => by simp at h
  | n :: ns, d :: ds, f, e, h => by
    unfold putN putD
    by_cases q : n = f
    · rw [if_pos q, if_pos q]; simpa using h
    · rw [if_neg q, if_neg q, List.length_cons, List.length_cons, put_len (by simpa using h)]
theorem put_dat : ∀ {ns : List Str} {ds : List DV} {xs : List V} {f : Str} {e : DV} {y : V}, ns.length = ds.length → DatL W G ds xs → Dat W G e y → ∃ zs, putF f y (ns.zip xs) = (putN f ns).zip zs ∧ DatL W G (putD f e ns ds) zs
  | [], ds, xs, f, e, y, hl, h, k => by
    refine ⟨[y], ?_, datL_cons' k datL_nil'⟩
    rw [List.zip_nil_left]
    rfl
  | n :: ns, [], xs, f, e, y, hl, h, k => by simp at hl
  | n :: ns, d :: ds, xs, f, e, y, hl, h, k => by
    obtain ⟨x, r, e1, h1, h2⟩ := datL_cons.mp h
    subst e1
    rw [List.zip_cons_cons, putF_eq]
    unfold putN putD
    by_cases q : n = f
    · refine ⟨y :: r, ?_, ?_⟩
      · rw [if_pos q]; dsimp only; rw [if_pos q]; rfl
      · rw [if_pos q]; exact datL_cons' k h2
    · obtain ⟨zs, z1, z2⟩ := put_dat (f := f) (by simpa using hl) h2 k
      refine ⟨x :: zs, ?_, ?_⟩
      · rw [if_neg q]; dsimp only; rw [if_neg q, z1]; rfl
      · rw [if_neg q]; exact datL_cons' h1 z2
theorem ws_fld {f : Str} (h : WE Z tb ρ M fun e M1 => WE Z ta ρ M1 fun d M2 => ∃ a C ns ds, d = .r a ∧ M2 a = some (.ins C ns ds) ∧ Cls Z.W.K C ∧ NoAttr Z.W.K C f ∧ ns.length < 1000 ∧ D2.nx ρ (updM M2 a (.ins C (putN f ns) (putD f e ns ds)))) : WS Z (sFld Z.W.K ta tb f) D2 ρ M := fun G σ H D s R E k =>
  h G σ H _ s R E fun e ve G1 M1 H1 s1 R1 x q => q G1 σ H1 _ (s.trans s1) R1 (E.mono s1) fun d vd G2 M2 H2 s2 R2 y q2 => by
    obtain ⟨a, C, ns, ds, rfl, hm, c, n, hl, q3⟩ := q2
    obtain ⟨dx, xs, h1, h2, h3⟩ := (R2.mu a _ hm).2
    obtain ⟨zs, z1, z2⟩ := put_dat (f := f) h2 h3 (x.mono s2)
    refine ⟨a, C, dx, _, dat_v.mp y, h1, c, n, ?_, ?_⟩
    · rw [List.length_zip, h3.length]; omega
    · refine k.nx _ _ G2 _ _ (s1.trans s2) (R2.write (mo' := .ins C (putN f ns) (putD f e ns ds)) hm ⟨dx, zs, ?_, put_len h2, z2⟩) ((E.mono s1).mono s2) q3
      rw [upd_same, z1]
end
abbrev XK2 := Addr → List Str → List DV → Mu → Prop
/-- the fields of an exception, in its own dict -/
def XdOk (W : Wd) (G : Hp) (d : Option Addr) (ns : List Str) (ds : List DV) : Prop := match d with
  | none => ns = [] ∧ ds = []
  | some dd => ∃ xs, G dd = some (.xd (ns.zip xs)) ∧ ns.length = ds.length ∧ DatL W G ds xs
def ExcOk (W : Wd) (G F : Hp) (E2 : XK2) (E : XK) : Prop := ∀ C ns ds d G' M' H', Same G G' → Rep W G' M' F H' → XdOk W G' d ns ds → E2 C ns ds M' → E (.ref C) d H'
theorem ExcOk.mono {W : Wd} {G G' F : Hp} {E2 : XK2} {E : XK} (e : Same G G') (h : ExcOk W G F E2 E) : ExcOk W G' F E2 E := fun C ns ds d G1 M1 H1 s R x q => h C ns ds d G1 M1 H1 (e.trans s) R x q
abbrev Sp2 := List DV → Mu → DQ → XK2 → Prop
def lift (W : Wd) (sp2 : Sp2) : Sp := fun vs H Q E => ∃ G F ds M Q2 E2, Rep W G M F H ∧ DatL W G ds vs ∧ sp2 ds M Q2 E2 ∧ RetOk W G F Q2 Q ∧ ExcOk W G F E2 E
def XcOk (Z : Zn) (E2 : XK2) (E : XK) : Prop := ExcOk Z.W Z.G Z.F E2 E
section
variable {W : Wd} {Z : Zn} {G G' F : Hp} {ρ : Ro} {σ : L2.St} {M : Mu} {H : Hp} {te ta tb tc : TE} {tt tu : TT} {ts tr : TS} {tx : TA} {Q2 Q2' : DQ} {D2 : Ends2} {d e x y : DV} {ds es : List DV} {v : V} {sp2 : Sp2} {E : XK} {E2 : XK2} {dvs : List V}
theorem we_call (hx : XcOk Z E2 E) (h : WA Z tx ρ M fun ds M1 => sp2 (ds ++ dvs.map DV.v) M1 Q2 E2) : WE Z (tCall (lift Z.W sp2) dvs E tx) ρ M Q2 := fun G σ H Q s R En r =>
  h G σ H _ s R En fun ds vs G1 M1 H1 s1 R1 xs q => ⟨G1, Z.F, _, M1, Q2, E2, R1, xs.append (datL_v dvs), q, r.mono s1, hx.mono (s.trans s1)⟩
theorem we_meth {C : Addr} {m : Str} (hx : XcOk Z E2 E) (h : WE Z ta ρ M fun d M1 => (∃ ns ds, ObjOf M1 d C ns ds ∧ (ns.zip ds).lookup m = none) ∧ WA Z tx ρ M1 fun es M2 => sp2 (d :: (es ++ dvs.map DV.v)) M2 Q2 E2) :
    WE Z (tMeth C m (lift Z.W sp2) dvs E ta tx) ρ M Q2 := fun G σ H Q s R En r =>
  h G σ H _ s R En fun d v G1 M1 H1 s1 R1 x q => by
    obtain ⟨⟨ns, ds, o, l⟩, q⟩ := q
    obtain ⟨a, dx, xs, e1, e2, e3, e4⟩ := obj_at R1 x o
    refine ⟨a, dx, _, e1, e2, zip_none e4 l, ?_⟩
    refine q G1 σ H1 _ (s.trans s1) R1 (En.mono s1) fun es vs G2 M2 H2 s2 R2 xs q2 => ?_
    exact ⟨G2, Z.F, _, M2, Q2, E2, R2, datL_cons' (x.mono s2) (xs.append (datL_v dvs)), q2, r.mono (s1.trans s2), hx.mono ((s.trans s1).trans s2)⟩
theorem Rep.made {x dx C : Addr} (R : Rep W G M F H) (hx : H x = none) (hd : H dx = none) (ne : dx ≠ x) : Rep W G (updM M x (.ins C [] [])) F (upd (upd H dx (.own x)) x (.ins C dx [])) := by
  have R1 : Rep W G M F (upd H dx (.own x)) := R.skip hd
  have hx1 : upd H dx (.own x) x = none := by rw [upd_ne (Ne.symm ne)]; exact hx
  exact R1.newM (mo := .ins C [] []) hx1 ⟨dx, [], upd_same, rfl, datL_nil'⟩
theorem we_make {C : Addr} (hx : XcOk Z E2 E) (h : WA Z tx ρ M fun es M1 => ∀ x, M1 x = none → sp2 (.r x :: (es ++ dvs.map DV.v)) (updM M1 x (.ins C [] [])) (fun d M2 => d = .n ∧ Q2 (.r x) M2) E2) :
    WE Z (tMake C (lift Z.W sp2) dvs E tx) ρ M Q2 := fun G σ H Q s R En r =>
  h G σ H _ s R En fun es vs G1 M1 H1 s1 R1 xs q => fun x dx hx0 hd0 ne =>
    ⟨G1, Z.F, _, _, _, E2, R1.made hx0 hd0 ne, datL_cons' dat_v' (xs.append (datL_v dvs)), q x (R1.mnone hx0), fun d v G2 M2 H2 s2 R2 y q2 => ⟨by rw [q2.1] at y; exact dat_v.mp y, r _ _ G2 M2 H2 (s1.trans s2) R2 dat_v' q2.2⟩, hx.mono (s.trans s1)⟩
/-- .. frozen when it is made -/
theorem we_makeF {C : Addr} (hx : XcOk Z E2 E) (h : WA Z tx ρ M fun es M1 => ∀ x, M1 x = none → sp2 (.r x :: (es ++ dvs.map DV.v)) (updM M1 x (.ins C [] [])) (fun d M2 => d = .n ∧ ∃ mo, M2 x = some mo ∧ mo.solid ∧ Q2 mo.frz (delM M2 x)) E2) :
    WE Z (tMake C (lift Z.W sp2) dvs E tx) ρ M Q2 := we_frz (we_make hx (h.imp fun es M1 k x h0 => by
      have := k x h0
      have e : (fun d M2 => d = DV.n ∧ ∃ mo, M2 x = some mo ∧ mo.solid ∧ Q2 mo.frz (delM M2 x)) = (fun d M2 => d = DV.n ∧ ∃ a mo, DV.r x = .r a ∧ M2 a = some mo ∧ mo.solid ∧ Q2 mo.frz (delM M2 a)) := by
        funext d M2
        apply propext
        constructor
        · rintro ⟨h1, mo, h2, h3⟩
          exact ⟨h1, x, mo, rfl, h2, h3⟩
        · rintro ⟨h1, a, mo, h0, h2, h3⟩
          have e0 : x = a := by
            injection h0 with h0
            injection h0
          subst e0
          exact ⟨h1, mo, h2, h3⟩
      rw [e] at this
      exact this))
end
section
variable {P : Program} {w : World} {K : PySem.W.Frag} {mg : Str → Option Value} {base : Heap}
abbrev Z_ (P : Program) (w : World) (K : PySem.W.Frag) (G F : Hp) : Zn := ⟨⟨P, w, K⟩, G, F⟩
theorem lift_len {W : Wd} {sp2 : Sp2} {n : Nat} (h : ∀ ds M Q2 E2, sp2 ds M Q2 E2 → ds.length = n) : ∀ vs H Q E, lift W sp2 vs H Q E → vs.length = n := fun vs H Q E ⟨G, F, ds, M, Q2, E2, R, x, q, _⟩ => by
  rw [x.length]
  exact h ds M Q2 E2 q
end
structure ItOk (W : Wd) (G : Hp) (J : It) (items : List DV) : Prop where
  go : ∀ i G' F M H', Same G G' → Rep W G' M F H' → i < items.length → J.go i H'
  stop : ∀ i G' F M H', Same G G' → Rep W G' M F H' → items.length ≤ i → J.stop i H'
  yld : ∀ i d G' F M H' x H'', Same G G' → Rep W G' M F H' → items[i]? = some d → J.yld i H' x H'' → ∃ G'', Same G' G'' ∧ Rep W G'' M F H'' ∧ Dat W G'' d x
def WI (Z : Zn) (wi : TI) (ρ : Ro) (M : Mu) (R2 : List DV → Mu → Prop) : Prop :=
  ∀ G σ H R, Same Z.G G → Rep Z.W G M Z.F H → EnvOk Z.W G ρ σ → (∀ items J G' M' H', Same G G' → Rep Z.W G' M' Z.F H' → ItOk Z.W G' J items → R2 items M' → R J H') → wi σ H R
def Loop (Z : Zn) (g : TG) (tb : TS) (D2 : Ends2) : List DV → Ro → Mu → Prop
  | [], ρ, M => D2.nx ρ M
  | d :: ds, ρ, M => WG Z g d ρ M fun ρ1 M1 => WS Z tb { D2 with nx := Loop Z g tb D2 ds, ct := Loop Z g tb D2 ds, bk := D2.nx } ρ1 M1
section
variable {W : Wd} {Z : Zn} {G G' F : Hp} {ρ : Ro} {σ : L2.St} {M : Mu} {H : Hp} {te ta tb tc : TE} {tt tu : TT} {ts tr : TS} {tx : TA} {Q2 Q2' : DQ} {D2 : Ends2} {d e x y : DV} {ds es : List DV} {v : V} {wi : TI} {g : TG}
theorem ItOk.mono {J : It} {items : List DV} (s : Same G G') (h : ItOk W G J items) : ItOk W G' J items :=
  ⟨fun i G1 F M H1 s1 R hi => h.go i G1 F M H1 (s.trans s1) R hi, fun i G1 F M H1 s1 R hi => h.stop i G1 F M H1 (s.trans s1) R hi, fun i d G1 F M H1 x H2 s1 R hd y => h.yld i d G1 F M H1 x H2 (s.trans s1) R hd y⟩
theorem itl_ok {a : Addr} {xs : List V} {ds : List DV} (h : SqL W.K G a xs) (hd : DatL W G ds xs) : ItOk W G (Itl W.K a) ds where
  go := fun i G' F M H' s R hi => by
    have hl := hd.length
    exact ⟨xs, xs[i], sql_mono R.ex (sql_mono s h), by simp [hl, hi]⟩
  stop := fun i G' F M H' s R hi => ⟨xs, sql_mono R.ex (sql_mono s h), by rw [hd.length]; exact hi⟩
  yld := fun i d G' F M H' x H'' s R e ⟨e1, y⟩ => by
    subst e1
    obtain ⟨z, h1, h2⟩ := (hd.mono s).get e
    have q := y xs (sql_mono R.ex (sql_mono s h))
    rw [h1] at q
    cases q
    exact ⟨G', Same.refl G', R, h2⟩
theorem wi_list {R2 : List DV → Mu → Prop} (h : WE Z te ρ M fun d M1 => ∃ ds, d = .lst ds ∧ R2 ds M1) : WI Z (iList Z.W.K te) ρ M R2 := fun G σ H R s Rp E r =>
  h G σ H _ s Rp E fun d v G1 M1 H1 s1 R1 x q => by
    obtain ⟨ds, rfl, q⟩ := q
    obtain ⟨a, xs, e1, e2, e3⟩ := dat_lst.mp x
    exact ⟨a, e1, ⟨xs, SqL.of (R1.ex _ _ e2)⟩, r ds _ G1 M1 H1 s1 R1 (itl_ok (SqL.of e2) e3) q⟩
theorem itt_ok {a : Addr} {xs : List V} {ds : List DV} (h : SqT W.K G a xs) (hd : DatL W G ds xs) : ItOk W G (Itt W.K a) ds where
  go := fun i G' F M H' s R hi => by
    have hl := hd.length
    exact ⟨xs, xs[i], sqt_mono R.ex (sqt_mono s h), by simp [hl, hi]⟩
  stop := fun i G' F M H' s R hi => ⟨xs, sqt_mono R.ex (sqt_mono s h), by rw [hd.length]; exact hi⟩
  yld := fun i d G' F M H' x H'' s R e ⟨e1, y⟩ => by
    subst e1
    obtain ⟨z, h1, h2⟩ := (hd.mono s).get e
    have q := y xs (sqt_mono R.ex (sqt_mono s h))
    rw [h1] at q
    cases q
    exact ⟨G', Same.refl G', R, h2⟩
def rangeD (lo : Int) (n : Nat) : List DV := (List.range n).map fun (i : Nat) => DV.i (lo + (i : Int))
theorem itr_ok {lo : Int} {n : Nat} : ItOk W G (Itr lo n) (rangeD lo n) where
  go := fun i G' F M H' s R hi => by
    have hi' : i < n := by simpa [rangeD] using hi
    exact hi'
  stop := fun i G' F M H' s R hi => by
    have hi' : n ≤ i := by simpa [rangeD] using hi
    exact hi'
  yld := fun i d G' F M H' x H'' s R e ⟨e1, y⟩ => by
    subst e1 y
    refine ⟨G', Same.refl G', R, ?_⟩
    unfold rangeD at e
    rw [List.getElem?_map] at e
    have hi : i < n := by
      cases q : (List.range n)[i]? with
      | none => rw [q] at e; cases e
      | some j => simpa using (List.getElem?_eq_some_iff.mp q).1
    rw [List.getElem?_range hi] at e
    cases e
    exact dat_v'
theorem wi_range1 {R2 : List DV → Mu → Prop} (h : WA Z tx ρ M fun ds M1 => ∃ j : Int, ds = [.i j] ∧ -(2 ^ 62) ≤ j ∧ j < 2 ^ 62 ∧ R2 (rangeD 0 j.toNat) M1) : WI Z (iRng1 tx) ρ M R2 := fun G σ H R s Rp E r =>
  h G σ H _ s Rp E fun ds vs G1 M1 H1 s1 R1 x q => by
    obtain ⟨j, rfl, h1, h2, q⟩ := q
    obtain ⟨y, e1, h3⟩ := one_of x
    rw [dat_v.mp h3] at e1
    exact ⟨j, e1, h1, h2, r _ _ G1 M1 H1 s1 R1 itr_ok q⟩
def enumD (ds : List DV) : List DV := ds.mapIdx fun i d => DV.tup [.i (i : Nat), d]
theorem ite_ok {a : Addr} {xs : List V} {ds : List DV} (h : SqL W.K G a xs) (hd : DatL W G ds xs) : ItOk W G (Ite W.K a) (enumD ds) where
  go := fun i G' F M H' s R hi => by
    have hl := hd.length
    have hi' : i < ds.length := by simpa [enumD] using hi
    exact ⟨xs, xs[i], sql_mono R.ex (sql_mono s h), by simp [hl, hi']⟩
  stop := fun i G' F M H' s R hi => by
    have hi' : ds.length ≤ i := by simpa [enumD] using hi
    exact ⟨xs, sql_mono R.ex (sql_mono s h), by rw [hd.length]; exact hi'⟩
  yld := fun i d G' F M H' x H'' s R e ⟨T, z, e1, hT, e2, y⟩ => by
    subst e1 e2
    unfold enumD at e
    rw [List.getElem?_mapIdx] at e
    cases q : ds[i]? with
    | none => rw [q] at e; cases e
    | some d0 =>
      rw [q] at e
      cases e
      obtain ⟨z', h1, h2⟩ := (hd.mono s).get q
      have q2 := y xs (sql_mono R.ex (sql_mono s h))
      rw [h1] at q2
      injection q2 with q2
      subst q2
      have sn := same_new (o := .tup [.int (i : Nat), z']) (R.gnone hT)
      exact ⟨_, sn, R.new hT, dat_tup.mpr ⟨T, _, rfl, SqT.of upd_same, datL_cons' dat_v' (datL_cons' (h2.mono sn) datL_nil')⟩⟩
theorem wi_enum {R2 : List DV → Mu → Prop} (h : WA Z tx ρ M fun ds M1 => ∃ es, ds = [.lst es] ∧ R2 (enumD es) M1) : WI Z (iEnum Z.W.K tx) ρ M R2 := fun G σ H R s Rp E r =>
  h G σ H _ s Rp E fun ds vs G1 M1 H1 s1 R1 x q => by
    obtain ⟨es, rfl, q⟩ := q
    obtain ⟨y, e1, h3⟩ := one_of x
    obtain ⟨a, xs, e2, e3, e4⟩ := dat_lst.mp h3
    subst e1 e2
    exact ⟨a, xs, rfl, SqL.of (R1.ex _ _ e3), r _ _ G1 M1 H1 s1 R1 (ite_ok (SqL.of e3) e4) q⟩
theorem drop_cons {α : Type} {l : List α} {i : Nat} (h : i < l.length) : l.drop i = l[i] :: l.drop (i + 1) := List.drop_eq_getElem_cons h
theorem ws_for (h : WI Z wi ρ M fun items M1 => Loop Z g ts D2 items ρ M1) : WS Z (tFor wi g ts) D2 ρ M := fun G σ H D s R E e => by
  refine h G σ H _ s R E fun items J G1 M1 H1 s1 R1 it q => ?_
  refine ⟨fun i m σ' H' => ∃ G' ρ' M', Same G1 G' ∧ Rep Z.W G' M' Z.F H' ∧ EnvOk Z.W G' ρ' σ' ∧ i ≤ items.length ∧ m = items.length - i ∧ Loop Z g ts D2 (items.drop i) ρ' M', ⟨items.length, G1, ρ, M1, Same.refl G1, R1, E.mono s1, Nat.zero_le _, rfl, q⟩, ?_⟩
  rintro i m σ' H' ⟨G', ρ', M', sg, R', E', hi, rfl, lp⟩
  by_cases hlt : i < items.length
  · rw [drop_cons hlt] at lp
    refine .inr ⟨it.go i G' Z.F M' H' sg R' hlt, fun σ2 H2 => ∃ G2 ρ2 M2, Same G1 G2 ∧ Rep Z.W G2 M2 Z.F H2 ∧ EnvOk Z.W G2 ρ2 σ2 ∧ Loop Z g ts D2 (items.drop (i + 1)) ρ2 M2, ?_, fun x H2 y => ?_⟩
    · rintro σ2 H2 ⟨G2, ρ2, M2, a1, a2, a3, a4⟩
      exact ⟨items.length - (i + 1), by omega, G2, ρ2, M2, a1, a2, a3, hlt, rfl, a4⟩
    · obtain ⟨G2, s2, R2, dx⟩ := it.yld i _ G' Z.F M' H' x H2 sg R' (List.getElem?_eq_getElem hlt) y
      refine lp G2 σ' H2 x _ ((s.trans s1).trans (sg.trans s2)) R2 (E'.mono s2) dx fun ρ3 σ3 G3 M3 H3 s3 R3 E3 q3 => ?_
      have s13 : Same G1 G3 := (sg.trans s2).trans s3
      refine q3 G3 σ3 H3 _ ((s.trans s1).trans s13) R3 E3 ⟨fun ρ4 σ4 G4 M4 H4 s4 R4 E4 q4 => ⟨G4, ρ4, M4, s13.trans s4, R4, E4, q4⟩, e.rt.mono (s1.trans s13), e.nx.mono (s1.trans s13), fun ρ4 σ4 G4 M4 H4 s4 R4 E4 q4 => ⟨G4, ρ4, M4, s13.trans s4, R4, E4, q4⟩⟩
  · have ei : i = items.length := by omega
    subst ei
    rw [List.drop_length] at lp
    exact .inl ⟨it.stop _ G' Z.F M' H' sg R' (Nat.le_refl _), e.nx ρ' σ' G' M' H' (s1.trans sg) R' E' lp⟩
end
end DL
set_option Elab.async false
set_option linter.all false
set_option maxRecDepth 100000
set_option maxHeartbeats 2000000
namespace DL
open PySem PySem.Spec PyProof.Rows L2
def wipe2 (ρ : Ro) : List Nat → Ro
  | [] => ρ
  | i :: is => (wipe2 ρ is).set i none
section
variable {W : Wd} {Z : Zn} {G G' F : Hp} {ρ : Ro} {σ : L2.St} {M : Mu} {H : Hp} {te ta tb tc : TE} {tt tu : TT} {ts tr : TS} {tx : TA} {Q2 Q2' : DQ} {D2 : Ends2} {d e x y : DV} {ds es : List DV} {v : V} {wi : TI} {g : TG}
theorem wipe2_length : ∀ is : List Nat, (wipe2 ρ is).length = ρ.length
  | [] => rfl
  | i :: is => by unfold wipe2; rw [List.length_set, wipe2_length is]
theorem EnvOk.setN {i : Nat} (E : EnvOk W G ρ σ) : EnvOk W G (ρ.set i none) (σ.set i none) := ⟨by simp [E.len], fun j e hj => by
  by_cases q : i = j
  · subst q
    have hl : i < ρ.length := by
      have := (List.getElem?_eq_some_iff.mp hj).1
      simpa using this
    rw [List.getElem?_set_self hl] at hj
    cases hj
  · rw [List.getElem?_set_ne q] at hj
    obtain ⟨u, h1, h2⟩ := E.get j e hj
    exact ⟨u, by rw [List.getElem?_set_ne q]; exact h1, h2⟩⟩
theorem EnvOk.wipe (E : EnvOk W G ρ σ) : ∀ is : List Nat, EnvOk W G (wipe2 ρ is) (L2.wipe σ is)
  | [] => E
  | i :: is => (EnvOk.wipe E is).setN
/-- a target that touches the block's own slots alone -/
def GOk (g : TG) (is : List Nat) : Prop := ∀ v σ0 σ H P, L2.wipe σ is = L2.wipe σ0 is → g v σ H P → g v σ H fun σ2 H2 => L2.wipe σ2 is = L2.wipe σ0 is ∧ P σ2 H2
def GsOk (g : TGs) (is : List Nat) : Prop := ∀ vs σ0 σ H P, L2.wipe σ is = L2.wipe σ0 is → g vs σ H P → g vs σ H fun σ2 H2 => L2.wipe σ2 is = L2.wipe σ0 is ∧ P σ2 H2
theorem wipe_get (σ : L2.St) (j : Nat) : ∀ is : List Nat, (L2.wipe σ is)[j]? = if j ∈ is ∧ j < σ.length then some none else σ[j]?
  | [] => by simp [L2.wipe]
  | i :: is => by
    unfold L2.wipe
    by_cases q : i = j
    · subst q
      by_cases hl : i < σ.length
      · rw [List.getElem?_set_self (by rw [L2.wipe_length]; exact hl), if_pos ⟨by simp, hl⟩]
      · rw [List.getElem?_eq_none (by simp [L2.wipe_length]; omega), if_neg (fun z => hl z.2), List.getElem?_eq_none (by omega)]
    · rw [List.getElem?_set_ne q, wipe_get σ j is]
      have : (j ∈ i :: is) ↔ j ∈ is := by simp [Ne.symm q]
      simp only [this]
theorem wipe_set {σ : L2.St} {i : Nat} {o : Option V} {is : List Nat} (h : i ∈ is) : L2.wipe (σ.set i o) is = L2.wipe σ is := by
  apply List.ext_getElem?
  intro j
  rw [wipe_get, wipe_get, List.length_set]
  by_cases q : j ∈ is ∧ j < σ.length
  · rw [if_pos q, if_pos q]
  · rw [if_neg q, if_neg q]
    by_cases e : i = j
    · subst e
      have hl : ¬ i < σ.length := fun z => q ⟨h, z⟩
      rw [List.getElem?_eq_none (by simp; omega), List.getElem?_eq_none (by omega)]
    · rw [List.getElem?_set_ne e]
theorem wipe_idem (σ : L2.St) (is : List Nat) : L2.wipe (L2.wipe σ is) is = L2.wipe σ is := by
  apply List.ext_getElem?
  intro j
  rw [wipe_get, wipe_get, L2.wipe_length]
  by_cases q : j ∈ is ∧ j < σ.length
  · rw [if_pos q, if_pos q]
  · rw [if_neg q, if_neg q]
theorem gok_name {i : Nat} {is : List Nat} (h : i ∈ is) : GOk (gName i) is := fun v σ0 σ H P e p => ⟨by rw [wipe_set h]; exact e, p⟩
theorem gsok_nil {is : List Nat} : GsOk gNil is := fun vs σ0 σ H P e p => ⟨p.1, e, p.2⟩
theorem gsok_cons {g : TG} {gs : TGs} {is : List Nat} (h1 : GOk g is) (hm : ∀ v σ H P P', (∀ s h, P s h → P' s h) → g v σ H P → g v σ H P') (h2 : GsOk gs is) : GsOk (gCons g gs) is := fun vs σ0 σ H P e ⟨v, r, e1, p⟩ =>
  ⟨v, r, e1, hm v σ H _ _ (fun s h ⟨q1, q2⟩ => h2 r σ0 s h P q1 q2) (h1 v σ0 σ H _ e p)⟩
theorem gname_mono {i : Nat} : ∀ v σ H P P', (∀ s h, P s h → P' s h) → gName i v σ H P → gName i v σ H P' := fun v σ H P P' k p => k _ _ p
theorem gsok_name {i : Nat} {gs : TGs} {is : List Nat} (h1 : i ∈ is) (h2 : GsOk gs is) : GsOk (gCons (gName i) gs) is := gsok_cons (gok_name h1) gname_mono h2
theorem gok_tup {K : PySem.W.Frag} {n : Nat} {gs : TGs} {is : List Nat} (h : GsOk gs is) : GOk (gTup K n gs) is := fun v σ0 σ H P e ⟨a, xs, e1, e2, e3, p⟩ => ⟨a, xs, e1, e2, e3, h xs σ0 σ H P e p⟩
abbrev Zn.fr (Z : Zn) (F : Hp) : Zn := ⟨Z.W, Z.G, F⟩
/-- the turns of a comprehension: items left, what is made so far -/
def Comp (Z : Zn) (g : TG) (tt : TT) (te : TE) (ρ : Ro) (k : List DV → Mu → Prop) : List DV → List DV → Mu → Prop
  | [], acc, M => k acc M
  | d :: ds, acc, M => acc.length < sizeLine ∧ ∀ F, WG (Z.fr F) g d ρ M fun ρ2 M2 => WT (Z.fr F) tt ρ2 M2 fun b M3 =>
      if b = true then WE (Z.fr F) te ρ2 M3 fun y M4 => Comp Z g tt te ρ k ds (acc ++ [y]) M4 else Comp Z g tt te ρ k ds acc M3
theorem Rep.toFr {p : Addr} {o : HO} (R : Rep W G M F H) (hp : H p = none) : Rep W G M (upd F p o) (upd H p o) where
  ex := fun a u e => by rw [upd_ne (ne_of_none (R.ex a u e) hp)]; exact R.ex a u e
  fr := fun a u e => by
    by_cases h : a = p
    · subst h; rw [upd_same] at e ⊢; exact e
    · rw [upd_ne h] at e ⊢; exact R.fr a u e
  fd := fun a u e => by
    by_cases h : a = p
    · subst h; exact ⟨R.gnone hp, R.mnone hp⟩
    · rw [upd_ne h] at e; exact R.fd a u e
  mu := fun a u e => by
    obtain ⟨h1, h2⟩ := R.mu a u e
    obtain ⟨z, hz⟩ := h2.there
    exact ⟨h1, h2.heap (upd_ne (ne_of_none hz hp))⟩
theorem Rep.frSet {p : Addr} {o u : HO} (R : Rep W G M (upd F p o) H) : Rep W G M (upd F p u) (upd H p u) := by
  have hp := R.fd p o upd_same
  exact {
    ex := fun a w e => by
      have ne : a ≠ p := fun z => by subst z; rw [hp.1] at e; cases e
      rw [upd_ne ne]; exact R.ex a w e
    fr := fun a w e => by
      by_cases h : a = p
      · subst h; rw [upd_same] at e ⊢; exact e
      · rw [upd_ne h] at e ⊢; exact R.fr a w (by rw [upd_ne h]; exact e)
    fd := fun a w e => by
      by_cases h : a = p
      · subst h; exact hp
      · rw [upd_ne h] at e; exact R.fd a w (by rw [upd_ne h]; exact e)
    mu := fun a w e => by
      have ne : a ≠ p := fun z => by subst z; rw [hp.2] at e; cases e
      obtain ⟨h1, h2⟩ := R.mu a w e
      exact ⟨h1, h2.heap (upd_ne ne)⟩ }
theorem Rep.ofFr {p : Addr} {o : HO} (R : Rep W G M (upd F p o) H) (hf : F p = none) : Rep W (upd G p o) M F H := by
  have hp := R.fd p o upd_same
  exact {
    ex := fun a w e => by
      by_cases h : a = p
      · subst h; rw [upd_same] at e; rw [← e]; exact R.fr a o upd_same
      · rw [upd_ne h] at e; exact R.ex a w e
    fr := fun a w e => R.fr a w (by rw [upd_ne (ne_of_none e hf)]; exact e)
    fd := fun a w e => by
      have ne := ne_of_none e hf
      rw [upd_ne ne]; exact R.fd a w (by rw [upd_ne ne]; exact e)
    mu := fun a w e => by
      have ne : a ≠ p := fun z => by subst z; rw [hp.2] at e; cases e
      obtain ⟨h1, h2⟩ := R.mu a w e
      exact ⟨by rw [upd_ne ne]; exact h1, h2.mono (same_new hp.1)⟩ }
theorem we_lc {is : List Nat} (hg : GOk g is) (h : WI Z wi ρ M fun items M1 => Comp Z g tt te (wipe2 ρ is) (fun acc M2 => Q2 (.lst acc) M2) items [] M1) : WE Z (tLc wi g tt te is) ρ M Q2 := fun G σ H Q s R E r => by
  refine h G σ H _ s R E fun items J G1 M1 H1 s1 R1 it q => ?_
  intro D hD
  have fD : Z.F D = none := R1.fnone hD
  refine ⟨fun i m H' => ∃ G' M' acc accV, Same G1 G' ∧ Rep Z.W G' M' (upd Z.F D (.lst accV)) H' ∧ DatL Z.W G' acc accV ∧ i ≤ items.length ∧ m = items.length - i ∧ Comp Z g tt te (wipe2 ρ is) (fun acc M2 => Q2 (.lst acc) M2) (items.drop i) acc M',
    ⟨items.length, G1, M1, [], [], Same.refl G1, R1.toFr hD, datL_nil', Nat.zero_le _, rfl, q⟩, ?_⟩
  rintro i m H' ⟨G', M', acc, accV, sg, R', hacc, hi, rfl, lp⟩
  by_cases hlt : i < items.length
  · rw [drop_cons hlt] at lp
    obtain ⟨hz, lp⟩ := lp
    refine .inr ⟨it.go i G' _ M' H' sg R' hlt, fun H2 => ∃ G2 M2 acc2 acc2V, Same G1 G2 ∧ Rep Z.W G2 M2 (upd Z.F D (.lst acc2V)) H2 ∧ DatL Z.W G2 acc2 acc2V ∧ Comp Z g tt te (wipe2 ρ is) (fun acc M2 => Q2 (.lst acc) M2) (items.drop (i + 1)) acc2 M2, ?_, fun x H2 y => ?_⟩
    · rintro H2 ⟨G2, M2, acc2, acc2V, a1, a2, a3, a4⟩
      exact ⟨items.length - (i + 1), by omega, G2, M2, acc2, acc2V, a1, a2, a3, hlt, rfl, a4⟩
    · obtain ⟨G2, s2, R2, dx⟩ := it.yld i _ G' _ M' H' x H2 sg R' (List.getElem?_eq_getElem hlt) y
      have E2 : EnvOk Z.W G2 (wipe2 ρ is) (L2.wipe σ is) := ((E.mono s1).mono (sg.trans s2)).wipe is
      refine hg x σ (L2.wipe σ is) H2 _ (wipe_idem σ is) ?_
      refine lp (upd Z.F D (.lst accV)) G2 (L2.wipe σ is) H2 x _ ((s.trans s1).trans (sg.trans s2)) R2 E2 dx fun ρ3 σ3 G3 M3 H3 s3 R3 E3 q3 => ?_
      have s13 : Same G1 G3 := (sg.trans s2).trans s3
      refine q3 G3 σ3 H3 _ ((s.trans s1).trans s13) R3 E3 fun b G4 M4 H4 s4 R4 q4 => ?_
      cases b with
      | false => exact ⟨G4, M4, acc, accV, s13.trans s4, R4, hacc.mono ((s2.trans s3).trans s4), q4⟩
      | true =>
        refine q4 G4 σ3 H4 _ ((s.trans s1).trans (s13.trans s4)) R4 (E3.mono s4) fun yd yv G5 M5 H5 s5 R5 dy q5 => ?_
        have s25 : Same G' G5 := ((s2.trans s3).trans s4).trans s5
        refine ⟨accV, R5.fr D _ upd_same, by rw [hacc.length]; exact hz, ?_⟩
        exact ⟨G5, M5, acc ++ [yd], accV ++ [yv], sg.trans s25, R5.frSet, (hacc.mono s25).append (datL_cons' dy datL_nil'), q5⟩
  · have ei : i = items.length := by omega
    subst ei
    rw [List.drop_length] at lp
    refine .inl ⟨it.stop _ G' _ M' H' sg R' (Nat.le_refl _), ?_⟩
    have gD := (R'.fd D _ upd_same).1
    exact r _ _ (upd G' D (.lst accV)) M' H' ((s1.trans sg).trans (same_new gD)) (R'.ofFr fD) (dat_lst.mpr ⟨D, accV, rfl, upd_same, hacc.mono (same_new gD)⟩) lp
/-- each item is taken, each gives a thing of its own: the list of these -/
theorem comp_map {k : List DV → Mu → Prop} (f : DV → DV) : ∀ (items acc : List DV), acc.length + items.length ≤ sizeLine →
    (∀ d ∈ items, ∀ F k2, k2 (f d) M → WG (Z.fr F) g d ρ M fun ρ2 M2 => WT (Z.fr F) tt ρ2 M2 fun b M3 => b = true ∧ WE (Z.fr F) te ρ2 M3 k2) → k (acc ++ items.map f) M → Comp Z g tt te ρ k items acc M
  | [], acc, hz, h, q => by
    show k acc M
    simpa using q
  | d :: ds, acc, hz, h, q => by
    simp only [List.length_cons] at hz
    refine ⟨by omega, fun F => ?_⟩
    have := h d List.mem_cons_self F (fun y M4 => Comp Z g tt te ρ k ds (acc ++ [y]) M4) (comp_map f ds (acc ++ [f d]) (by simp; omega) (fun d' hd => h d' (List.mem_cons_of_mem _ hd)) (by simpa using q))
    intro G σ H v P s R E x n
    refine this G σ H v P s R E x fun ρ1 σ1 G1 M1 H1 s1 R1 E1 q1 => n ρ1 σ1 G1 M1 H1 s1 R1 E1 ?_
    exact q1.imp fun b M' ⟨hb, q⟩ => by rw [if_pos hb]; exact q
end
mutual
def DV.py : DV → Option PyData
  | .v .non => some .none
  | .v (.bl b) => some (.bool b)
  | .v (.int i) => some (.int i)
  | .v (.str x) => some (.str x)
  | .lst ds => (pyL ds).map .list
  | .tup ds => (pyL ds).map .tuple
  | _ => none
def pyL : List DV → Option (List PyData)
  | [] => some []
  | d :: ds => match d.py, pyL ds with
    | some p, some ps => some (p :: ps)
    | _, _ => none
end
section
variable {W : Wd} {Z : Zn} {G G' F : Hp} {ρ : Ro} {σ : L2.St} {M : Mu} {H : Hp} {Q2 Q2' : DQ} {d e x y : DV} {ds es : List DV} {v : V}
theorem pyL_cons {ps : List PyData} (h : pyL (d :: ds) = some ps) : ∃ p qs, d.py = some p ∧ pyL ds = some qs ∧ ps = p :: qs := by
  unfold pyL at h
  cases h1 : d.py with
  | none => rw [h1] at h; cases h
  | some p =>
    cases h2 : pyL ds with
    | none => rw [h1, h2] at h; cases h
    | some qs =>
      rw [h1, h2] at h
      cases h
      exact ⟨p, qs, rfl, rfl, rfl⟩
mutual
theorem Dat.dp (ex : Same G H) : ∀ {d : DV} {v : V} {p : PyData}, Dat W G d v → d.py = some p → Dp W.K H v p
  | .v x, v, p, h, e => by
    rw [dat_v.mp h]
    cases x <;> simp [DV.py] at e <;> subst e
    · exact .non
    · exact .bl _
    · exact .int _
    · exact .str _
  | .lst ds, v, p, h, e => by
    obtain ⟨a, xs, h1, h2, h3⟩ := dat_lst.mp h
    simp only [DV.py, Option.map_eq_some_iff] at e
    obtain ⟨ps, e1, e2⟩ := e
    rw [h1, ← e2]
    exact .lst (SqL.of (ex _ _ h2)) (DatL.dp ex h3 e1)
  | .tup ds, v, p, h, e => by
    obtain ⟨a, xs, h1, h2, h3⟩ := dat_tup.mp h
    simp only [DV.py, Option.map_eq_some_iff] at e
    obtain ⟨ps, e1, e2⟩ := e
    rw [h1, ← e2]
    exact .tup (sqt_mono ex h2) (DatL.dp ex h3 e1)
  | .obj C ns ds, v, p, h, e => by simp [DV.py] at e
  | .dk ks ds, v, p, h, e => by simp [DV.py] at e
  | .dl ks ds, v, p, h, e => by simp [DV.py] at e
  | .fn _ _, v, p, h, e => by simp [DV.py] at e
theorem DatL.dp (ex : Same G H) : ∀ {ds : List DV} {vs : List V} {ps : List PyData}, DatL W G ds vs → pyL ds = some ps → DpAll W.K H vs ps
  | [], vs, ps, h, e => by
    rw [datL_nil.mp h]
    simp [pyL] at e
    subst e
    exact .nil
  | d :: ds, vs, ps, h, e => by
    obtain ⟨y, r, e1, h1, h2⟩ := datL_cons.mp h
    obtain ⟨p, qs, f1, f2, f3⟩ := pyL_cons e
    rw [e1, f3]
    exact .cons (Dat.dp ex h1 f1) (DatL.dp ex h2 f2)
end
/-- as data: frozen, or a changeable list at the top -/
def PyOf (M : Mu) (d : DV) (p : PyData) : Prop := d.py = some p ∨ ∃ a ds ps, d = .r a ∧ M a = some (.lst ds) ∧ pyL ds = some ps ∧ p = .list ps
theorem PyOf.dp {p : PyData} (R : Rep W G M F H) (h : Dat W G d v) (o : PyOf M d p) : Dp W.K H v p := by
  rcases o with o | ⟨a, ds, ps, rfl, hm, e, rfl⟩
  · exact h.dp R.ex o
  · obtain ⟨xs, h1, h2⟩ := (R.mu a _ hm).2
    rw [dat_v.mp h]
    exact .lst (SqL.of h1) (h2.dp R.ex e)
theorem wr_eqD {p q : PyData} (h1 : PyOf M x p) (h2 : PyOf M y q) (s1 : SeqAt.shaped p = true) (s2 : SeqAt.shaped q = true) (h : Q2 (.b (PyData.eqv p q)) M) : WR Z (rEqD Z.W.K) x y M Q2 := fun G H vx vy Q s R dx dy r =>
  ⟨p, q, h1.dp R dx, h2.dp R dy, s1, s2, r _ _ G M H (Same.refl G) R dat_v' h⟩
theorem wr_neD {p q : PyData} (h1 : PyOf M x p) (h2 : PyOf M y q) (s1 : SeqAt.shaped p = true) (s2 : SeqAt.shaped q = true) (h : Q2 (.b (!PyData.eqv p q)) M) : WR Z (rNeD Z.W.K) x y M Q2 := fun G H vx vy Q s R dx dy r =>
  ⟨p, q, h1.dp R dx, h2.dp R dy, s1, s2, r _ _ G M H (Same.refl G) R dat_v' h⟩
theorem wr_notInD {p : PyData} {qs : List PyData} (h1 : PyOf M x p) (h2 : PyOf M y (.list qs)) (s1 : SeqAt.shaped p = true) (s2 : SeqAt.shaped (.list qs) = true) (h : Q2 (.b (!qs.any fun z => PyData.eqv z p)) M) : WR Z (rNotInD Z.W.K) x y M Q2 := fun G H vx vy Q s R dx dy r =>
  ⟨p, qs, h1.dp R dx, h2.dp R dy, s1, s2, r _ _ G M H (Same.refl G) R dat_v' h⟩
def TyD (W : Wd) (M : Mu) (d : DV) (t : Value) : Prop := ∀ G F H v, Rep W G M F H → Dat W G d v → TyX W.K H v t
theorem wc_isi {x : DV} {c : V} {t u : Value} {b : Bool} (hc : ClsV c u) (ht : TyD Z.W M x t) (hk : PySem.W.kitOne Z.W.K t u = some b) (h : Q2 (.b b) M) : WC Z (rIsi Z.W.K) [x, .v c] M Q2 := fun G H vs Q s R xs r => by
  obtain ⟨y, z, e1, h1, h2⟩ := two_of xs
  rw [dat_v.mp h2] at e1
  exact ⟨y, c, t, u, b, e1, hc, ht G Z.F H y R h1, hk, r _ _ G M H (Same.refl G) R dat_v' h⟩
theorem tyD_non : TyD W M .n (.type "NoneType") := fun G F H v R h => by rw [dat_v.mp h]; exact .base .non
theorem tyD_bl {b : Bool} : TyD W M (.b b) (.type "bool") := fun G F H v R h => by rw [dat_v.mp h]; exact .base (.bl b)
theorem tyD_int {i : Int} : TyD W M (.i i) (.type "int") := fun G F H v R h => by rw [dat_v.mp h]; exact .base (.int i)
theorem tyD_str {z : Str} : TyD W M (.s z) (.type "str") := fun G F H v R h => by rw [dat_v.mp h]; exact .base (.str z)
theorem tyD_lst (l : LstOf M d ds) : TyD W M d (.type "list") := fun G F H v R h => by
  obtain ⟨a, xs, e1, e2, e3⟩ := lst_at R h l
  rw [e1]
  exact .base (.lst e2)
theorem tyD_tup : TyD W M (.tup ds) (.type "tuple") := fun G F H v R h => by
  obtain ⟨a, xs, e1, e2, e3⟩ := dat_tup.mp h
  rw [e1]
  rcases sqt_mono R.ex e2 with (q | ⟨o, q⟩) | ⟨o, its, n, k1, k2, _⟩
  · exact .base (.tup q)
  · exact .fTuple q
  · exact .kTuple k1 k2
theorem tyD_dk {ks : List Key} : TyD W M (.dk ks ds) (.type "dict") := fun G F H v R h => by
  obtain ⟨a, xs, e1, e2, e3, e4⟩ := dat_dk.mp h
  rw [e1]
  rcases Rd.same R.ex e2 with q | ⟨o, q⟩
  · exact .base (.dK q)
  · exact .fDict q
end
end DL
set_option Elab.async false
set_option linter.all false
set_option maxRecDepth 100000
set_option maxHeartbeats 4000000
namespace DL
open PySem PySem.Spec PyProof.Rows L2
section
variable {X : Cx} {e : Expr} {es : List Expr} {ta : TA} {p1 p2 pos : Pos}
theorem pe_finit {x : Str} {B : Addr} {pl : Sem Bool} (hg : Gl X x) (hm : X.mg x = some (.ref B)) (sp : PySem.W.specialIn X.K (.ref B) "__getattribute__" = some (some (.builtin "type.__getattribute__")))
    (rd : PySem.W.readsIn X.K B (.type "type") = true) (fc : PySem.W.findCls X.K (.ref B) (.type "type") "__init__" = some (.val (.builtin "ValueError.__init__"))) (ha : PA X (e :: es) ta)
    (hc : eval (.Call (.Attribute (.Name x p1) "__init__" p2) (e :: es) [] pos) X.env = (do
      let ov ← eval (.Name x p1) X.env
      standAt p2.atName
      let (f, first) ← holding [ov] (getMethod ov "__init__" pl)
      callWith pos f first (backTo pos (starEach (e :: es) X.env)) (backToKw pos (keywordEach [] X.env))) := by rfl)
    (hdb : (x == ("__debug__" : Str)) = false := by decide)
    (he : starEach (e :: es) X.env = (false, eval e X.env) :: starEach es X.env := by rfl) (hpl : (backTo pos (starEach es X.env)).any (·.1) = false := by rfl) :
    PE X (.Call (.Attribute (.Name x p1) "__init__" p2) (e :: es) [] pos) (tVeI X.K ta) := by
  refine ⟨fun pins s σ H Q I h => ?_⟩
  refine PySem.W.methodCall_KW (ld_glob I hg hm ?_ hdb) hc
  refine PySem.W.method_cls I.kIn sp (PySem.W.cls_value I.kIn rd fc (by decide +kernel) ?_)
  refine PyProof.Rows.callWith_method1 (thn (ha.run pos pins _ σ H _ (I.tok _) h) fun us s1 ⟨vs, H1, I1, r1, a, C, ws, ev, hl, T, ea, q⟩ => ?_) he hpl
  subst ev
  cases r1 with
  | @cons _ u0 _ ur ra rw' =>
    obtain rfl : u0 = Value.ref a := ra
    have hlen : ur.length ≤ sizeLine := by
      rw [← Paired.length rw', sizeLine_eq]
      omega
    exact oinit_ok T I1 ea hlen fun s' J => ⟨.non, H1, J, rfl, q⟩
end
/-- what __init__(self, f): B.__init__(self, ..); self.f = f keeps -/
def spX1 (C : Addr) (f : Str) : Sp := fun vs H Q _ => ∃ (a : Addr) (v : V), vs = [.ref a, v] ∧ H a = some (exo a C none) ∧ ∀ d, H d = none → d ≠ a → Q .non (upd (upd H d (exd d [(f, v)])) a (exo a C (some d)))
abbrev WX2 := Addr → List Str → List DV → Ro → Mu → Prop
def WxOk (Z : Zn) (W2 : WX2) (Wx : WX) : Prop := ∀ C ns ds d ρ' σ' G' M' H', Same Z.G G' → Rep Z.W G' M' Z.F H' → EnvOk Z.W G' ρ' σ' → XdOk Z.W G' d ns ds → W2 C ns ds ρ' M' → Wx (.ref C) d σ' H'
theorem wx_of {Z : Zn} {E2 : XK2} {E : XK} (h : XcOk Z E2 E) : WxOk Z (fun C ns ds _ M => E2 C ns ds M) (fun cls d _ H => E cls d H) := fun C ns ds d ρ' σ' G' M' H' s R _ x q => h C ns ds d G' M' H' s R x q
section
variable {W : Wd} {Z : Zn} {G G' F : Hp} {ρ : Ro} {σ : L2.St} {M : Mu} {H : Hp} {te ta tb tc : TE} {tt tu : TT} {ts tr : TS} {tx : TA} {Q2 Q2' : DQ} {D2 : Ends2} {d e x y : DV} {ds es : List DV} {v : V} {W2 : WX2} {Wx : WX}
/-- raise C(e), C with one field -/
theorem ws_raise1 {C : Addr} {f : Str} (hw : WxOk Z W2 Wx) (h : WA Z tx ρ M fun ds M1 => ∃ d, ds = [d] ∧ W2 C [f] [d] ρ M1) : WS Z (fun _ σ H => tMkO C (spX1 C f) [] tx σ H fun cls d H' => Wx cls d σ H') D2 ρ M := fun G σ H D s R E k =>
  h G σ H _ s R E fun ds vs G1 M1 H1 s1 R1 xs q => by
    obtain ⟨d0, rfl, q⟩ := q
    obtain ⟨y, e1, hy⟩ := one_of xs
    subst e1
    refine ⟨by show 1 ≤ 1000; decide, fun a ha => ⟨a, y, rfl, upd_same, fun dd hd hne => ⟨rfl, ?_⟩⟩⟩
    have hd1 : H1 dd = none := by rw [upd_ne hne] at hd; exact hd
    refine ⟨dd, [(f, y)], upd_same, ?_, hd1, ?_⟩
    · rw [upd_ne hne, upd_same]
    · have R2 : Rep Z.W (upd G1 dd (.xd [(f, y)])) M1 Z.F (upd H1 dd (.xd [(f, y)])) := R1.new hd1
      have sn := same_new (o := .xd [(f, y)]) (R1.gnone hd1)
      have key : upd (L2.del (upd (upd (upd H1 a (exo a C none)) dd (exd dd [(f, y)])) a (exo a C (some dd))) a) dd (.xd [(f, y)]) = upd H1 dd (.xd [(f, y)]) := by
        funext b
        by_cases h1 : b = dd
        · rw [h1, upd_same, upd_same]
        · rw [upd_ne h1, upd_ne h1]
          by_cases h2 : b = a
          · rw [h2, L2.del_same, ha]
          · rw [L2.del_ne h2, upd_ne h2, upd_ne h1, upd_ne h2]
      rw [key]
      exact hw C [f] [d0] (some dd) ρ σ _ M1 _ ((s.trans s1).trans sn) R2 ((E.mono s1).mono sn) ⟨[y], upd_same, rfl, datL_cons' (hy.mono sn) datL_nil'⟩ q
/-- raise C('..'), C without __init__ -/
theorem ws_raise0 {C : Addr} (hw : WxOk Z W2 Wx) (h : W2 C [] [] ρ M) : WS Z (fun _ σ H => (fun (_ : L2.St) (H : Hp) (Q : XK) => Q (.ref C) none H) σ H fun cls d H' => Wx cls d σ H') D2 ρ M := fun G σ H D s R E k =>
  hw C [] [] none ρ σ G M H s R E ⟨rfl, rfl⟩ h
abbrev Zn.at (Z : Zn) (G : Hp) : Zn := ⟨Z.W, G, Z.F⟩
/-- try: .. except X as n: .. -/
theorem ws_try {K : PySem.W.Frag} (hK : K = Z.W.K) {tb : WX → TS} {c : Value} {i : Nat} {ts : Addr → Value → Option Addr → TS} {Wout : WX} (W2 : WX2)
    (hb : ∀ G1 Wx, Same Z.G G1 → WxOk (Z.at G1) W2 Wx → WS (Z.at G1) (tb Wx) D2 ρ M)
    (hs : ∀ C ns ds ρ' M', W2 C ns ds ρ' M' → PySem.W.exmOne Z.W.K (.ref C) c = some true ∧ ∀ G1 d a, Same Z.G G1 → XdOk Z.W G1 d ns ds →
      WS (Z.at G1) (ts a (.ref C) d) { nx := fun ρ2 M2 => D2.nx (ρ2.set i none) M2, rt := D2.rt, bk := fun ρ2 M2 => D2.bk (ρ2.set i none) M2, ct := fun ρ2 M2 => D2.ct (ρ2.set i none) M2 } (ρ'.set i (some (.r a))) M') :
    WS Z (fun D σ H => tb (wAs K c i ts Wout D) D σ H) D2 ρ M := fun G σ H D s R E k => by
  subst hK
  refine hb G _ s ?_ G σ H D (Same.refl G) R E k
  intro C ns ds d ρ' σ' G' M' H' s' R' E' x' q
  obtain ⟨e1, e2⟩ := hs C ns ds ρ' M' q
  refine ⟨true, e1, fun _ a ha => ?_, fun z => nomatch z⟩
  have ss : Same G G' := s'
  refine e2 G' d a (s.trans ss) x' G' _ H' _ (Same.refl G') R' (E'.set dat_v') ?_
  have nx : ∀ (P2 : Ro → Mu → Prop) (P : L2.St → Hp → Prop), NxOk Z.W G Z.F P2 P → NxOk Z.W G' Z.F (fun ρ2 M2 => P2 (ρ2.set i none) M2) (fun σ' H' => P (σ'.set i none) H') := fun P2 P h ρ2 σ2 G2 M2 H2 s2 R2 E2 q2 =>
    h _ _ G2 M2 H2 (ss.trans s2) R2 E2.setN q2
  exact ⟨nx _ _ k.nx, k.rt.mono ss, nx _ _ k.bk, nx _ _ k.ct⟩
end
def rIsX (K : PySem.W.Frag) (cls : Value) (d : Option Addr) (a : Addr) : List V → Hp → VK → Prop := fun xs H Q => ∃ (D : Addr) (c : V) (cv : Value) (b : Bool), cls = .ref D ∧ ExcC K D ∧ xs = [.ref a, c] ∧ ClsV c cv ∧
  PySem.W.kitOne K (.ref D) cv = some b ∧ (d = none ∨ ∃ dd fs, d = some dd ∧ H dd = some (.xd fs)) ∧ Q (.bl b) H
section
variable {X : Cx} {a : Addr} {oe : Obj} {cls : Value} {d : Option Addr} {pn : List (Addr × Obj)}
theorem inst_of {D : Addr} {pins : List (Addr × Obj)} {σ : L2.St} {H : Hp} {s : Shared} (I : Inv (X.suite a ((a, oe) :: pn)) pins σ H s) (hz : Zc (.ref D) d oe) (hf : ∃ vs, oe.data = .fields vs) (hd : d = none ∨ ∃ dd fs, d = some dd ∧ H dd = some (.xd fs)) :
    ∃ od, PySem.W.InstAt s.heap a oe D od := by
  obtain ⟨hget, _⟩ := I.pin (a, oe) (List.mem_append.mpr (.inl List.mem_cons_self))
  obtain ⟨vs, hv⟩ := hf
  obtain ⟨oc, od, oda, osl⟩ := oe
  obtain ⟨h1, h2⟩ := hz
  dsimp only at h1 h2 hv
  rcases hd with rfl | ⟨dd, fs, rfl, e⟩
  · subst h1 h2 hv
    exact ⟨none, hget, rfl, rfl, trivial⟩
  · obtain ⟨u, hu⟩ := objOk_get (I.hok dd _ e)
    subst h1 h2 hv
    exact ⟨some u, hget, rfl, rfl, hu⟩
theorem kitx_of_excC {K : PySem.W.Frag} {D x : Addr} {ox : Obj} {od : Option Obj} (C : ExcC K D) : PySem.W.KitX K (.ref x) (.ref D) (fun h => PySem.W.InstAt h x ox D od) := by
  obtain ⟨cd, hc, _⟩ := PySem.W.any_some C.hd
  exact PySem.W.kitx_exc (by rw [hc]; rfl) C.hg C.hk C.hs C.ha C.hn C.ht C.hm
theorem call_isX (hz : Zc cls d oe) (hf : ∃ vs, oe.data = .fields vs) : CallR (X.suite a ((a, oe) :: pn)) (.builtin "isinstance") (rIsX X.K cls d a) := by
  intro pins s σ H xs us Q I r h
  obtain ⟨D, c, cv, b, rfl, C, rfl, hcv, e, hd, q⟩ := h
  obtain ⟨u1, u2, rfl, r1, r2⟩ := vals2 r
  cases (show u1 = Value.ref a from r1)
  have ec := hcv.eq r2
  subst ec
  obtain ⟨od, J⟩ := inst_of I hz hf hd
  exact PySem.W.kia_one (kitx_of_excC C) I.kIn J e (fun z => nomatch z) fun tk => ⟨.bl b, H, I.kept (t' := tk) fun _ _ z => z, rfl, q⟩
end
section
variable {W : Wd} {Z : Zn} {G G' F : Hp} {ρ : Ro} {σ : L2.St} {M : Mu} {H : Hp} {te : TE} {Q2 Q2' : DQ} {ns : List Str} {ds : List DV}
theorem xd_there (hx : XdOk W G d ns ds) (s : Same G H) : d = none ∨ ∃ dd fs, d = some dd ∧ H dd = some (.xd fs) := by
  cases d with
  | none => exact .inl rfl
  | some dd =>
    obtain ⟨xs, h1, _⟩ := hx
    exact .inr ⟨dd, _, rfl, s _ _ h1⟩
theorem wc_isX {a D : Addr} {d : Option Addr} {c : V} {cv : Value} {b : Bool} (C : ExcC Z.W.K D) (hx : XdOk Z.W Z.G d ns ds) (hc : ClsV c cv) (hk : PySem.W.kitOne Z.W.K (.ref D) cv = some b) (h : Q2 (.b b) M) : WC Z (rIsX Z.W.K (.ref D) d a) [.r a, .v c] M Q2 := fun G H vs Q s R xs r => by
  obtain ⟨y, z, e1, h1, h2⟩ := two_of xs
  rw [dat_v.mp h1, dat_v.mp h2] at e1
  exact ⟨D, c, cv, b, rfl, C, e1, hc, hk, xd_there hx (s.trans R.ex), r _ _ G M H (Same.refl G) R dat_v' h⟩
end
end DL
set_option Elab.async false
set_option linter.all false
set_option maxRecDepth 100000
set_option maxHeartbeats 4000000
namespace DL
open PySem PySem.Spec PyProof.Rows L2
theorem lex_irrefl : ∀ x : List Int, HT.lexLt x x = false
  | [] => rfl
  | a :: x => by rw [HT.lexLt_cons, if_pos rfl]; exact lex_irrefl x
theorem lex_asym : ∀ x y : List Int, HT.lexLt x y = true → HT.lexLt y x = false
  | [], [], h => rfl
  | [], _ :: _, h => rfl
  | _ :: _, [], h => nomatch h
  | a :: x, b :: y, h => by
    rw [HT.lexLt_cons] at h ⊢
    by_cases e : a = b
    · rw [if_pos e] at h; rw [if_pos e.symm]; exact lex_asym x y h
    · rw [if_neg e] at h; rw [if_neg (Ne.symm e)]
      have := of_decide_eq_true h
      exact decide_eq_false (by omega)
theorem lex_trans : ∀ x y z : List Int, HT.lexLt x y = true → HT.lexLt y z = true → HT.lexLt x z = true
  | [], [], z, h, _ => nomatch h
  | [], _ :: _, [], _, k => nomatch k
  | [], _ :: _, _ :: _, _, _ => rfl
  | _ :: _, [], z, h, _ => nomatch h
  | _ :: _, _ :: _, [], _, k => nomatch k
  | a :: x, b :: y, c :: z, h, k => by
    rw [HT.lexLt_cons] at h k ⊢
    by_cases e : a = b
    · rw [if_pos e] at h
      by_cases f : b = c
      · rw [if_pos f] at k; rw [if_pos (e.trans f)]; exact lex_trans x y z h k
      · rw [if_neg f] at k; rw [if_neg (by omega)]
        have := of_decide_eq_true k
        exact decide_eq_true (by omega)
    · rw [if_neg e] at h
      have h' := of_decide_eq_true h
      by_cases f : b = c
      · rw [if_neg (by omega)]; exact decide_eq_true (by omega)
      · rw [if_neg f] at k
        have k' := of_decide_eq_true k
        rw [if_neg (by omega)]; exact decide_eq_true (by omega)
theorem lex_tot : ∀ x y : List Int, x = y ∨ HT.lexLt x y = true ∨ HT.lexLt y x = true
  | [], [] => .inl rfl
  | [], _ :: _ => .inr (.inl rfl)
  | _ :: _, [] => .inr (.inr rfl)
  | a :: x, b :: y => by
    rw [HT.lexLt_cons, HT.lexLt_cons]
    by_cases e : a = b
    · subst e
      rw [if_pos rfl, if_pos rfl]
      rcases lex_tot x y with h | h | h
      · exact .inl (by rw [h])
      · exact .inr (.inl h)
      · exact .inr (.inr h)
    · rw [if_neg e, if_neg (Ne.symm e)]
      by_cases h : a < b
      · exact .inr (.inl (decide_eq_true h))
      · exact .inr (.inr (decide_eq_true (by omega)))
theorem lex_negtr (x y z : List Int) (h : HT.lexLt y x = false) (k : HT.lexLt z y = false) : HT.lexLt z x = false := by
  cases q : HT.lexLt z x with
  | false => rfl
  | true =>
    rcases lex_tot x y with e | e | e
    · subst e; rw [q] at k; cases k
    · have := lex_trans z x y q e
      rw [this] at k; cases k
    · rw [e] at h; cases h
/-- rows, sorted, each once -/
def insU (r : List Int) : List (List Int) → List (List Int)
  | [] => [r]
  | x :: xs => if HT.lexLt r x then r :: x :: xs else if r = x then x :: xs else x :: insU r xs
def sset (rows : List (List Int)) : List (List Int) := rows.foldr insU []
abbrev Rising (l : List (List Int)) : Prop := l.Pairwise fun x y => HT.lexLt x y = true
theorem mem_insU {r z : List Int} : ∀ {l : List (List Int)}, z ∈ insU r l ↔ z = r ∨ z ∈ l
  | [] => by simp [insU]
  | x :: xs => by
    unfold insU
    by_cases h : HT.lexLt r x
    · rw [if_pos h]; simp
    · rw [if_neg h]
      by_cases e : r = x
      · rw [if_pos e]; subst e; simp
      · rw [if_neg e]; simp only [List.mem_cons, mem_insU (l := xs)]
        constructor
        · rintro (h | h | h)
          · exact .inr (.inl h)
          · exact .inl h
          · exact .inr (.inr h)
        · rintro (h | h | h)
          · exact .inr (.inl h)
          · exact .inl h
          · exact .inr (.inr h)
theorem rising_insU {r : List Int} : ∀ {l : List (List Int)}, Rising l → Rising (insU r l)
  | [], _ => by simp [insU, Rising]
  | x :: xs, h => by
    unfold insU
    obtain ⟨h1, h2⟩ := List.pairwise_cons.mp h
    by_cases c : HT.lexLt r x
    · rw [if_pos c]
      refine List.pairwise_cons.mpr ⟨fun z hz => ?_, h⟩
      rcases List.mem_cons.mp hz with e | e
      · rw [e]; exact c
      · exact lex_trans _ _ _ c (h1 z e)
    · rw [if_neg c]
      by_cases e : r = x
      · rw [if_pos e]; exact h
      · rw [if_neg e]
        refine List.pairwise_cons.mpr ⟨fun z hz => ?_, rising_insU h2⟩
        rcases mem_insU.mp hz with q | q
        · subst q
          rcases lex_tot z x with k | k | k
          · exact absurd k e
          · rw [k] at c; exact absurd rfl c
          · exact k
        · exact h1 z q
theorem mem_sset {z : List Int} : ∀ {l : List (List Int)}, z ∈ sset l ↔ z ∈ l
  | [] => by simp [sset]
  | x :: xs => by
    show z ∈ insU x (sset xs) ↔ _
    rw [mem_insU, mem_sset, List.mem_cons]
theorem rising_sset : ∀ (l : List (List Int)), Rising (sset l)
  | [] => List.Pairwise.nil
  | x :: xs => rising_insU (rising_sset xs)
theorem rising_uniq : ∀ {l m : List (List Int)}, Rising l → Rising m → (∀ z, z ∈ l ↔ z ∈ m) → l = m
  | [], [], _, _, _ => rfl
  | [], y :: m, _, _, h => absurd ((h y).mpr List.mem_cons_self) (by simp)
  | x :: l, [], _, _, h => absurd ((h x).mp List.mem_cons_self) (by simp)
  | x :: l, y :: m, hl, hm, h => by
    obtain ⟨l1, l2⟩ := List.pairwise_cons.mp hl
    obtain ⟨m1, m2⟩ := List.pairwise_cons.mp hm
    have e : x = y := by
      rcases List.mem_cons.mp ((h x).mp List.mem_cons_self) with e | hx
      · exact e
      · rcases List.mem_cons.mp ((h y).mpr List.mem_cons_self) with e | hy
        · exact e.symm
        · have a := m1 x hx
          have b := l1 y hy
          rw [lex_asym _ _ a] at b; cases b
    subst e
    have ih : l = m := rising_uniq l2 m2 fun z => by
      constructor
      · intro hz
        rcases List.mem_cons.mp ((h z).mp (List.mem_cons_of_mem _ hz)) with e | q
        · subst e
          have := l1 z hz
          rw [lex_irrefl] at this; cases this
        · exact q
      · intro hz
        rcases List.mem_cons.mp ((h z).mpr (List.mem_cons_of_mem _ hz)) with e | q
        · subst e
          have := m1 z hz
          rw [lex_irrefl] at this; cases this
        · exact q
    rw [ih]
theorem Rising.nodup {l : List (List Int)} (h : Rising l) : l.Nodup := h.imp fun {x y} q e => by
  subst e
  rw [lex_irrefl] at q; cases q
theorem insU_len (r : List Int) : ∀ l : List (List Int), (insU r l).length ≤ l.length + 1
  | [] => Nat.le_refl _
  | x :: xs => by
    unfold insU
    by_cases h : HT.lexLt r x
    · rw [if_pos h]; simp
    · rw [if_neg h]
      by_cases e : r = x
      · rw [if_pos e]; simp
      · rw [if_neg e]
        have := insU_len r xs
        simp only [List.length_cons]
        omega
theorem sset_len : ∀ l : List (List Int), (sset l).length ≤ l.length
  | [] => Nat.le_refl _
  | x :: xs => by
    show (insU x (sset xs)).length ≤ xs.length + 1
    have h1 := insU_len x (sset xs)
    have h2 := sset_len xs
    omega
section
variable {prog : Program} {w : World} {A : Around} {E : Value → Shared → Prop} {s : Shared}
theorem lex_run {Q : Bool → Shared → Prop} : ∀ {xs ys : List Value} {ns ms : List Int} (i : Nat) (fin : Bool), IntsAre xs ns → IntsAre ys ms → (fin = decide (xs.length < ys.length)) → Q (HT.lexLt ns ms) s → PySem.W.KatLex prog w A true fin Q (xs.zip ys) i s
  | _, _, _, _, i, fin, .nil, .nil, e, q => by subst e; exact PySem.W.kat_nil q
  | _, _, _, _, i, fin, .nil, .cons m t hm, e, q => by subst e; exact PySem.W.kat_nil q
  | _, _, _, _, i, fin, .cons n t hn, .nil, e, q => by subst e; exact PySem.W.kat_nil q
  | _, _, _, _, i, fin, .cons n t hn, .cons m u hm, e, q => by
    rw [List.zip_cons_cons]
    refine PySem.W.kat_cons (SeqAt.EqAt.int_int n t m u prog w _ _ ?_)
    rw [HT.lexLt_cons] at q
    refine PySem.W.kat_go (fun e1 => ?_) (fun e1 => ?_)
    · have ex : n = m := by simpa using e1
      rw [if_pos ex] at q
      refine PySem.W.kat_yes (lex_run (i + 1) fin hn hm ?_ q)
      rw [e]
      simp
    · have ex : ¬ n = m := by simpa using e1
      rw [if_neg ex] at q
      exact PySem.W.kat_no (TS.oneLt_ints _ q)
def ltT (h : Heap) (v u : Value) : Bool := HT.lexLt (TS.intsOf h v) (TS.intsOf h u)
theorem swo_ltT (h : Heap) : SrtO.Swo (ltT h) := ⟨fun x y q => lex_asym _ _ q, fun x y z h k => lex_negtr _ _ _ h k⟩
theorem tups_sortable {a : Addr} {vs : List Value} (h0 : 0 < vs.length) (hp : ∀ v ∈ vs, ∃ n ns, TS.TupInts s.heap v (n :: ns)) (ha : ∀ o, s.heap.get? a = some o → o.cls ≠ .type "tuple") (hB : Heap) (hint : ∀ v ∈ vs, ∀ ns, TS.TupInts s.heap v ns → TS.intsOf hB v = ns) :
    SrtO.SortableO prog w A s a vs (ltT hB) := by
  intro h' keep
  have kp : ∀ v ns, TS.TupInts s.heap v ns → TS.TupInts h' v ns := fun v ns x => x.keeps fun b o e c => keep b o (fun z => by subst z; exact ha o e c) e
  have firsts : ∀ vs : List Value, (∀ v ∈ vs, ∃ n ns, TS.TupInts h' v (n :: ns)) → ∃ fs, PySem.W.KatTups h' vs fs ∧ fs.length = vs.length ∧ ∀ f ∈ fs, ∃ n t, f = Value.int n t := by
    intro vs
    induction vs with
    | nil => intro _; exact ⟨[], PySem.W.KatTups.nil, rfl, fun f hf => by cases hf⟩
    | cons v vs ih =>
      intro hv
      obtain ⟨fs, k1, k2, k3⟩ := ih fun u hu => hv u (List.mem_cons_of_mem _ hu)
      obtain ⟨n, ns, b, xs, rfl, ⟨o, ho, hc, m, hd⟩, hi⟩ := hv v List.mem_cons_self
      obtain ⟨l⟩ := xs
      have hi' : IntsAre l (n :: ns) := hi
      cases hi' with
      | cons _ t r =>
        refine ⟨.int n t :: fs, PySem.W.KatTups.cons ho hc hd rfl k1, by rw [List.length_cons, List.length_cons, k2], fun f hf => ?_⟩
        rcases List.mem_cons.mp hf with e | e
        · exact ⟨n, t, e⟩
        · exact k3 f e
  obtain ⟨fs, k1, k2, k3⟩ := firsts vs fun v hv => by
    obtain ⟨n, ns, x⟩ := hp v hv
    exact ⟨n, ns, kp v _ x⟩
  refine ⟨PyProof.Rows.tuples' true, fun Q E hq => ?_, ?_⟩
  · refine PySem.W.kat_kind (T := .type "int") k1 (by omega) (fun f hm => ?_) (by rfl) ?_
    · obtain ⟨x, t, rfl⟩ := k3 f hm
      exact PySem.W.Looks.now
    · have e : (Value.type "int" != Value.type "tuple") = true := by decide +kernel
      rw [e]
      exact hq
  · intro p q hm hm'
    obtain ⟨n1, ns1, x1⟩ := hp _ hm
    obtain ⟨n2, ns2, x2⟩ := hp _ hm'
    have i1 := hint _ hm _ x1
    have i2 := hint _ hm' _ x2
    obtain ⟨a1, xs1, e1, ⟨o1, ho1, _, m1, hd1⟩, j1⟩ := kp _ _ x1
    obtain ⟨a2, xs2, e2, ⟨o2, ho2, _, m2, hd2⟩, j2⟩ := kp _ _ x2
    show wpAny (model prog w) A (PyProof.Rows.keyLt' (PyProof.Rows.tuples' true) p.1 q.1) (fun r s' => s' = { s with heap := h' } ∧ r = HT.lexLt (TS.intsOf hB p.1) (TS.intsOf hB q.1)) (fun _ _ => False) { s with heap := h' }
    rw [i1, i2, e1, e2]
    exact PySem.W.kat_lt ho1 hd1 ho2 hd2 (lex_run 0 _ j1 j2 (by simp) ⟨rfl, rfl⟩)
end
theorem perm_map_inv {α β : Type} {f : α → β} {l m : List β} (h : l.Perm m) : ∀ {L : List α}, L.map f = m → ∃ L' : List α, L'.Perm L ∧ L'.map f = l := by
  induction h with
  | nil => intro L e; exact ⟨[], by rw [List.map_eq_nil_iff.mp e], rfl⟩
  | @cons x l1 l2 _ ih =>
    intro L e
    cases L with
    | nil => cases e
    | cons a L =>
      rw [List.map_cons] at e
      injection e with e1 e2
      obtain ⟨L', p, q⟩ := ih e2
      exact ⟨a :: L', p.cons a, by rw [List.map_cons, e1, q]⟩
  | @swap x y l1 =>
    intro L e
    match L, e with
    | [], e => cases e
    | [a], e => cases e
    | a :: b :: L, e =>
      rw [List.map_cons, List.map_cons] at e
      injection e with e1 e2
      injection e2 with e2 e3
      exact ⟨b :: a :: L, List.Perm.swap a b L, by rw [List.map_cons, List.map_cons, e1, e2, e3]⟩
  | trans _ _ ih1 ih2 =>
    intro L e
    obtain ⟨L1, p1, q1⟩ := ih2 e
    obtain ⟨L2, p2, q2⟩ := ih1 q1
    exact ⟨L2, p2.trans p1, q2⟩
/-- sorted of a set of tuples of ints, all of one length -/
def rSortG (W : Wd) : List V → Hp → VK → Prop := fun vs H Q => ∃ (a : Addr) (L : List (Addr × List Int)) (d : Nat), vs = [V.ref a] ∧ H a = some (SetTO W.P W.w a L) ∧ (∀ p ∈ L, SqT W.K H p.1 (p.2.map V.int)) ∧ (∀ p ∈ L, p.2.length = d) ∧
  ∀ (L' : List (Addr × List Int)) (p : Addr), L'.Perm L → L'.Pairwise (fun q r => HT.lexLt q.2 r.2 = true) → H p = none → Q (.ref p) (upd H p (.lst (L'.map fun q => V.ref q.1)))
abbrev Cx.wd (X : Cx) : Wd := ⟨X.prog, X.w, X.K⟩
/-- a row as data -/
abbrev rowD (r : List Int) : DV := .tup (r.map DV.i)
section
variable {W : Wd} {Z : Zn} {G G' F : Hp} {ρ : Ro} {M : Mu} {H : Hp} {te : TE} {Q2 : DQ}
theorem rows_keys : ∀ {rows : List (List Int)} {xs : List V}, DatL W G (rows.map rowD) xs → ∃ ks : List (Addr × List Int), xs = ks.map (fun p => V.ref p.1) ∧ ks.map (·.2) = rows ∧ ∀ p ∈ ks, SqT W.K G p.1 (p.2.map V.int)
  | [], xs, h => ⟨[], by rw [datL_nil.mp h]; rfl, rfl, fun p hp => by cases hp⟩
  | r :: rows, xs, h => by
    obtain ⟨y, t, e, h1, h2⟩ := datL_cons.mp h
    obtain ⟨a, zs, e1, e2, e3⟩ := dat_tup.mp h1
    obtain ⟨ks, k1, k2, k3⟩ := rows_keys h2
    rw [datL_int e3] at e2
    refine ⟨(a, r) :: ks, by rw [e, e1, k1]; rfl, by rw [List.map_cons, k2], fun p hp => ?_⟩
    rcases List.mem_cons.mp hp with q | q
    · rw [q]; exact e2
    · exact k3 p q
theorem keys_rows : ∀ {ks : List (Addr × List Int)}, (∀ p ∈ ks, SqT W.K G p.1 (p.2.map V.int)) → DatL W G ((ks.map (·.2)).map rowD) (ks.map fun p => V.ref p.1)
  | [], _ => datL_nil'
  | p :: ks, h => datL_cons' (dat_tup.mpr ⟨p.1, _, rfl, h p List.mem_cons_self, by
      have : p.2.map DV.i = (p.2.map V.int).map DV.v := by rw [List.map_map]; rfl
      rw [this]
      exact datL_v _⟩) (keys_rows fun q hq => h q (List.mem_cons_of_mem _ hq))
theorem we_sset {P : Program} {w : World} {K : PySem.W.Frag} (hW : Z.W = ⟨P, w, K⟩) (h : WE Z te ρ M fun d M1 => ∃ (rows : List (List Int)) (n : Nat), LstOf M1 d (rows.map rowD) ∧ rows.length < 64 ∧ (∀ r ∈ rows, r.length = n) ∧ Q2 (.lst ((sset rows).map rowD)) M1) :
    WE Z (tCB (rSortG ⟨P, w, K⟩) (tCons (tCB (rSetOfT K P w) (tCons te tNil)) tNil)) ρ M Q2 := fun G σ H Q s R E r => by
  refine h G σ H _ s R E fun d v G1 M1 H1 s1 R1 x q => ?_
  obtain ⟨rows, n, l, hl, hn, q⟩ := q
  obtain ⟨a, xs, e1, e2, e3⟩ := lst_at R1 x l
  obtain ⟨ks, k1, k2, k3⟩ := rows_keys e3
  have kl : ks.length = rows.length := by rw [← k2, List.length_map]
  have hWK : Z.W.K = K := by rw [hW]
  have k3' : ∀ p ∈ ks, SqT K H1 p.1 (p.2.map V.int) := fun p hp => by rw [← hWK]; exact sqt_mono R1.ex (k3 p hp)
  subst e1
  refine ⟨a, ks, rfl, SqL.of (by rw [e2, k1]), k3', by omega, fun b L hb hL1 hL2 => ?_⟩
  have L3 : ∀ p ∈ L, SqT Z.W.K G1 p.1 (p.2.map V.int) := fun p hp => k3 p (hL1 p hp)
  refine ⟨b, L, n, rfl, upd_same, fun p hp => ?_, fun p hp => hn _ (by rw [← k2]; exact List.mem_map_of_mem (hL1 p hp)), fun L' p pm pw hp => ?_⟩
  · have := sqt_mono (same_new (o := SetTO P w b L) hb) (k3' p (hL1 p hp))
    exact this
  · have hp1 : H1 p = none := by
      by_cases e : p = b
      · rw [e, upd_same] at hp; cases hp
      · rw [upd_ne e] at hp; exact hp
    have R2 : Rep Z.W G1 M1 Z.F (upd H1 b (SetTO P w b L)) := R1.skip hb
    have es : sset rows = L'.map (·.2) := rising_uniq (rising_sset rows) (List.pairwise_map.mpr pw) fun z => by
      rw [mem_sset, ← k2]
      constructor
      · intro hz
        obtain ⟨p', hp', e'⟩ := List.mem_map.mp hz
        have := hL2 p' hp'
        rw [e'] at this
        exact (pm.map (·.2)).mem_iff.mpr this
      · intro hz
        obtain ⟨p', hp', e'⟩ := List.mem_map.mp ((pm.map (·.2)).mem_iff.mp hz)
        rw [← e']
        exact List.mem_map_of_mem (hL1 p' hp')
    rw [es] at q
    have sn := same_new (o := .lst (L'.map fun q => V.ref q.1)) (R2.gnone hp)
    exact r _ _ _ M1 _ (s1.trans sn) (R2.new hp) (dat_lst.mpr ⟨p, _, rfl, upd_same, (keys_rows fun p' hp' => L3 p' (pm.mem_iff.mp hp')).mono sn⟩) q
end
end DL
set_option Elab.async false
set_option linter.all false
set_option maxRecDepth 100000
set_option maxHeartbeats 4000000
namespace DL
open PySem PySem.Spec PyProof.Rows L2
/-- each once, in the order of the first coming -/
def addU {α : Type} [DecidableEq α] (acc : List α) (k : α) : List α := if k ∈ acc then acc else acc ++ [k]
def uniq {α : Type} [DecidableEq α] (ks : List α) : List α := ks.foldl addU []
section
variable {α : Type} [DecidableEq α]
theorem mem_addU {acc : List α} {k z : α} : z ∈ addU acc k ↔ z ∈ acc ∨ z = k := by
  unfold addU
  by_cases h : k ∈ acc
  · rw [if_pos h]
    exact ⟨.inl, fun q => q.elim id fun e => e ▸ h⟩
  · rw [if_neg h]; simp
theorem len_addU (acc : List α) (k : α) : (addU acc k).length = if k ∈ acc then acc.length else acc.length + 1 := by
  unfold addU; split <;> simp
theorem nodup_addU {acc : List α} {k : α} (h : acc.Nodup) : (addU acc k).Nodup := by
  unfold addU
  by_cases q : k ∈ acc
  · rw [if_pos q]; exact h
  · rw [if_neg q]
    rw [List.nodup_append]
    exact ⟨h, by simp, fun a ha b hb => by
      have : b = k := by simpa using hb
      subst this
      exact fun e => q (e ▸ ha)⟩
theorem foldU_nodup : ∀ {ks acc : List α}, (acc ++ ks).Nodup → ks.foldl addU acc = acc ++ ks
  | [], acc, h => by simp
  | k :: ks, acc, h => by
    rw [List.foldl_cons]
    have hk : k ∉ acc := fun q => by
      rw [List.nodup_append] at h
      exact h.2.2 k q k List.mem_cons_self rfl
    have e : addU acc k = acc ++ [k] := if_neg hk
    rw [e, foldU_nodup (by simpa using h)]
    simp
theorem uniq_nodup {ks : List α} (h : ks.Nodup) : uniq ks = ks := by
  unfold uniq; rw [foldU_nodup (by simpa using h)]; simp
theorem foldU_len_le : ∀ (ks acc : List α), (ks.foldl addU acc).length ≤ acc.length + ks.length
  | [], acc => by simp
  | k :: ks, acc => by
    rw [List.foldl_cons]
    have h1 := foldU_len_le ks (addU acc k)
    have h2 := len_addU acc k
    simp only [List.length_cons]
    split at h2 <;> omega
theorem foldU_len_eq : ∀ {ks acc : List α}, (ks.foldl addU acc).length = acc.length + ks.length → acc.Nodup → (acc ++ ks).Nodup
  | [], acc, _, n => by simpa using n
  | k :: ks, acc, e, n => by
    rw [List.foldl_cons] at e
    have h1 := foldU_len_le ks (addU acc k)
    have h2 := len_addU acc k
    simp only [List.length_cons] at e
    by_cases q : k ∈ acc
    · rw [if_pos q] at h2; omega
    · rw [if_neg q] at h2
      have := foldU_len_eq (ks := ks) (acc := addU acc k) (by omega) (nodup_addU n)
      have ea : addU acc k = acc ++ [k] := if_neg q
      rw [ea] at this
      simpa using this
theorem uniq_len_le (ks : List α) : (uniq ks).length ≤ ks.length := by have := foldU_len_le ks ([] : List α); simpa [uniq] using this
theorem uniq_len {ks : List α} : (uniq ks).length = ks.length ↔ ks.Nodup := by
  constructor
  · intro h
    have := foldU_len_eq (ks := ks) (acc := []) (by simpa [uniq] using h) List.nodup_nil
    simpa using this
  · intro h; rw [uniq_nodup h]
end
section
variable {prog : Program} {w : World} {A : Around} {E : Value → Shared → Prop} {s : Shared} {K : Type} [DecidableEq K] {knd : PySem.KeyKind prog w K}
theorem setOf_of {h : Heap} {a : Addr} {S S' : K → Bool} {n n' : Nat} (x : h.SetOf knd a S n) (e : ∀ k, S k = S' k) (en : n = n') : h.SetOf knd a S' n' := by
  obtain rfl : S = S' := funext e
  subst en
  exact x
/-- the loop that fills a set: the keys from the i-th on are added -/
theorem fill_keys {I : Addr} {fp wr : List Addr} {Gm : Array GenState → Array GenState → Prop} {Pv : Nat → Value → Prop} {St : Nat → Shared → Prop} {R : Result → Shared → Prop} (ks : List K)
    (Wk : WalksS prog w A.in1 I fp wr Gm ks.length Pv St) (S : Addr) (hSf : S ∉ fp) (hval : ∀ (i : Nat) (v : Value), Pv i v → ∃ k, ks[i]? = some k ∧ knd.is k v = true ∧ v.scannable = true) (hb : ks.length + 1 < scanBound) :
    ∀ (r i : Nat) (s : Shared), ks.length - i = r → i ≤ ks.length → St i s → s.heap.SetOf knd S (fun k => decide (k ∈ uniq (ks.take i))) (uniq (ks.take i)).length →
      (∀ s', Moved (S :: wr) Gm s s' → s'.heap.SetOf knd S (fun k => decide (k ∈ uniq ks)) (uniq ks).length → R (.ok (.ret .none)) s') →
      codeAny (model prog w) A (.builtin "set.update.loop" ⟨[.ref S, .ref I], []⟩) R s := by
  have hSw : S ∉ wr := fun h => hSf (Wk.sub _ h)
  have sub : ∀ b ∈ wr, b ∈ S :: wr := fun b hb => List.mem_cons_of_mem _ hb
  intro r
  induction r with
  | zero =>
    intro i s hr hi hst hS hR
    obtain rfl : i = ks.length := by omega
    rw [List.take_length] at hS
    refine codeAny_builtin PyProof.Rows.F.entry_set_update_loop ?_
    rw [Around.under_plainId PyProof.Rows.F.plain_set_update_loop _]
    refine wpAny_bind (m := pyNext (.ref I)) (Wk.done s _ _ hst fun s' hm => ?_)
    refine wpAny_pure (hR s' (hm.mono sub) ?_)
    obtain ⟨o, es, ep, t, ho, rest⟩ := hS
    exact ⟨o, es, ep, t, hm.heap S _ hSw ho, rest⟩
  | succ r ih =>
    intro i s hr hi hst hS hR
    have hlt : i < ks.length := by omega
    refine codeAny_builtin PyProof.Rows.F.entry_set_update_loop ?_
    rw [Around.under_plainId PyProof.Rows.F.plain_set_update_loop _]
    refine wpAny_bind (m := pyNext (.ref I)) (Wk.item i s _ _ hlt hst fun v s' hP hst' hm => ?_)
    obtain ⟨k, hk, his, hsc⟩ := hval i v hP
    have hS' : s'.heap.SetOf knd S (fun k => decide (k ∈ uniq (ks.take i))) (uniq (ks.take i)).length := by
      obtain ⟨o, es, ep, t, ho, rest⟩ := hS
      exact ⟨o, es, ep, t, hm.heap S _ hSw ho, rest⟩
    refine wpAny_bind (m := holding [v] (setAdd S v)) (wpAny_holding ?_)
    unfold setAdd
    refine wpAny_holding (wpAny_bind (knd.pyHash (k := k) his ?_))
    have hlen : (uniq (ks.take i)).length + 1 < scanBound := by
      have h1 := uniq_len_le (ks.take i)
      rw [List.length_take] at h1
      omega
    refine wpAny_setAddHashed_of (knd := knd) (s := { s' with toks := s'.toks + 1 }) his hsc hS' hlen fun h' hsb hS2 => ?_
    have step : uniq (ks.take (i + 1)) = addU (uniq (ks.take i)) k := by
      unfold uniq
      rw [List.take_add_one, hk, List.foldl_append]
      rfl
    have hSi : h'.SetOf knd S (fun k => decide (k ∈ uniq (ks.take (i + 1)))) (uniq (ks.take (i + 1))).length := by
      refine setOf_of hS2 (fun z => ?_) ?_
      · rw [step]
        rw [Bool.eq_iff_iff]
        simp only [Bool.or_eq_true, decide_eq_true_eq, mem_addU]
      · rw [step, len_addU]
        simp only [decide_eq_true_eq]
    refine wpAny_pure ⟨plainId_quiet PyProof.Rows.F.plain_set_update_loop _, ih (i + 1) _ (by omega) hlt (Wk.frame _ s' _ _ hst' (Nat.le_succ _) fun b hb o e => ?_) hSi fun s'' hm'' hS'' => ?_⟩
    · exact (hsb.2 b fun (z : b = S) => hSf (z ▸ hb)).trans e
    · refine hR s'' (Moved.trans Wk.gtrans ((hm.mono sub).then_heap (Nat.le_succ _) fun b o hb e => ?_) hm'') hS''
      exact (hsb.2 b fun (z : b = S) => hb (z ▸ List.mem_cons_self)).trans e
theorem call_set_keys {l : Addr} {items : Array Value} {ks : List K} {Q : Value → Shared → Prop} (hh : A.handled = none) (hl : s.heap.IsList l items) (hsz : items.size = ks.length)
    (hval : ∀ (i : Nat) (v : Value), items[i]? = some v → ∃ k, ks[i]? = some k ∧ knd.is k v = true ∧ v.scannable = true) (hb : ks.length + 1 < scanBound)
    (h : ∀ (h' : Heap) (tk : Nat), h'.SetOf knd s.heap.objs.size (fun k => decide (k ∈ uniq ks)) (uniq ks).length → (∀ b o, s.heap.get? b = some o → h'.get? b = some o) → Q (.ref s.heap.objs.size) { s with heap := h', toks := tk }) :
    wpAny (model prog w) A (call (.type "set") [.ref l]) Q E s := by
  obtain ⟨cc, tl, hmro⟩ := PySem.F.called_set.mro
  have hmade := PySem.F.called_set.made
  have hsub := PySem.F.called_set.sub
  have h1 := PySem.F.called_set.notType
  have h2 := PySem.F.called_set.canCreate
  have hct := PySem.F.typeCall_set_1 (.ref l)
  obtain ⟨ol, hol, hcl, nl, hdl⟩ := id hl
  have hlS : l < s.heap.objs.size := Heap.lt_size hol
  refine wpAny_call (codeAny_of_tree ?_)
  show wpAny _ _ (callAny (.type "set") _) _ _ _
  refine wpAny_pure ⟨Code.quiet_builtin _ (by decide +kernel), codeAny_builtin PySem.F.entry_type_call ?_⟩
  rw [Around.under_plain (weight_type_call_type "set" [.ref l] []) rfl]
  repeat (any_goals (first | assumption | wp_step))
  refine codeAny_mono (code_set_new_1 (.ref l) (E := E) (Q₁ := fun ob s₁ => ∃ led : Bool, ob = .ref s.heap.objs.size ∧ s₁ = { s with heap := s.heap.push { cls := .type "set", dict := none, data := .set #[] 0 (.fresh 0 0 led) } }) fun led => ⟨led, rfl, rfl⟩) fun r s₁ hr => ?_
  rcases r with er | fl
  · exact hr
  · cases fl with
    | ret ob =>
      obtain ⟨led, rfl, rfl⟩ := hr
      generalize hp : s.heap.push { cls := .type "set", dict := none, data := .set #[] 0 (.fresh 0 0 led) } = hp1
      have sz1 : hp1.objs.size = s.heap.objs.size + 1 := by rw [← hp, Heap.size_push]
      have hS : hp1.get? s.heap.objs.size = some { cls := .type "set", dict := none, data := .set #[] 0 (.fresh 0 0 led) } := by rw [← hp]; exact Heap.get?_push_size _ rfl
      have k1 : ∀ b o, s.heap.get? b = some o → hp1.get? b = some o := fun b o e => by rw [← hp]; exact Heap.get?_push_of_some _ e
      have hT : Shared.TypeIs { s with heap := hp1 } (.ref s.heap.objs.size) "set" := ⟨_, hS, rfl⟩
      have hli := PySem.F.called_set.init.lookup
      have hbi := PySem.F.called_set.init.bind (.ref s.heap.objs.size)
      repeat (any_goals (first | assumption | wp_step))
      refine codeAny_mono (codeAny_call_builtin (R := wants (fun rv s₂ => rv = .none ∧ ∃ h' tk, s₂ = { s with heap := h', toks := tk } ∧ h'.SetOf knd s.heap.objs.size (fun k => decide (k ∈ uniq ks)) (uniq ks).length ∧
          (∀ b o, s.heap.get? b = some o → h'.get? b = some o)) E) PySem.F.called_set.init.plain PySem.F.entry_set_init (check_set_init_1 hT ?_)) fun r₂ s₂ hr₂ => ?_
      · obtain ⟨oc, od, ot, os⟩ := ol
        simp only at hcl hdl
        subst hcl hdl
        have hol' := k1 _ _ hol
        have g1 := PySem.F.sub_list_set
        have g2 := PySem.F.sub_list_frozenset
        have g3 : (Value.type "list" == Value.type "dict") = false := by decide
        have hl1 : hp1.IsList l items := ⟨_, hol', rfl, nl, rfl⟩
        unfold Builtin.«set.__init__» noKeywords Builtin.Frozenset.updateFrom
        generalize hPI : pyIter = PI
        wp_walk
        subst hPI
        refine wpAny_pyIter_list hl1 (wpAny_bind (wpAny_runValue ?_))
        have hh3 : A.in1.in1.in1.handled = none := by simp [hh]
        have neI : l ≠ hp1.objs.size := by rw [sz1]; exact Nat.ne_of_lt (Nat.lt_succ_of_lt hlS)
        have Wk := (Walks.list (prog := prog) (w := w) hh3 hp1.objs.size l neI items).toS
        rw [hsz] at Wk
        have hSf : s.heap.objs.size ∉ [hp1.objs.size, l] := by
          rw [sz1]
          simp only [List.mem_cons, List.not_mem_nil, or_false, not_or]
          exact ⟨Nat.ne_of_lt (Nat.lt_succ_self _), Nat.ne_of_gt hlS⟩
        refine fill_keys (knd := knd) ks Wk s.heap.objs.size hSf hval hb (ks.length - 0) 0 _ (by omega) (Nat.zero_le _) ⟨⟨_, Heap.get?_push_size _ rfl, rfl, rfl⟩, hl1.push _⟩ ?_ fun s' hm hS' => ?_
        · have hget : (hp1.push { cls := .type "list_iterator", data := .fields #[.ref l, .int 0 0] }).get? s.heap.objs.size = some { cls := .type "set", dict := none, data := .set #[] 0 (.fresh 0 0 led) } := Heap.get?_push_of_some _ hS
          exact setOf_of ((PyProof.Rows.setObjOf_fresh (knd := knd) led).setOf hget (by unfold scanBound; omega)) (fun _ => by simp [uniq]) rfl
        · obtain ⟨h', g', d', tk', os'⟩ := s'
          have eg : g' = s.gens := hm.gens
          have ed : d' = s.drawn := hm.drawn
          have eo : os' = s.os := hm.os
          subst eg ed eo
          refine wpAny_pure (wpAny_pure ⟨rfl, h', tk', rfl, hS', fun b o e => ?_⟩)
          have hb' := Heap.lt_size e
          refine hm.heap b o ?_ (Heap.get?_push_of_some _ (k1 b o e))
          simp only [List.mem_cons, List.not_mem_nil, or_false, not_or]
          rw [sz1]
          exact ⟨Nat.ne_of_lt hb', Nat.ne_of_lt (Nat.lt_succ_of_lt hb')⟩
      · rcases r₂ with e2 | fl₂
        · exact hr₂
        · cases fl₂ with
          | ret rv =>
            obtain ⟨rfl, h', tk, rfl, hS', hk'⟩ := hr₂
            repeat (any_goals (first | assumption | wp_step))
            exact h _ _ hS' hk'
          | _ => exact hr₂.elim
    | _ => exact hr.elim
end
def tLenS (K : PySem.W.Frag) (ta : TE) : TE := fun σ H Q => ta σ H fun x H1 => ∃ (l : Addr) (xs : List Str), x = .ref l ∧ SqL K H1 l (xs.map V.str) ∧ xs.length ≤ 4000 ∧ Q (.int ((uniq xs).length : Nat)) H1
theorem strs_at : ∀ {xs : List Str} {us : List Value}, Vals (xs.map V.str) us → ∀ (i : Nat) (v : Value), us[i]? = some v → ∃ x t, xs[i]? = some x ∧ v = Value.str x t
  | [], _, .nil, i, v, h => by simp at h
  | x :: xs, _, .cons r t, 0, v, h => by
    obtain ⟨k, rfl⟩ := r
    exact ⟨x, k, rfl, by simpa using h.symm⟩
  | x :: xs, _, .cons r t, i + 1, v, h => by
    obtain ⟨y, k, h1, h2⟩ := strs_at t i v (by simpa using h)
    exact ⟨y, k, by simpa using h1, h2⟩
theorem pe_lenS {X : Cx} {a : Expr} {ta : TE} {p p2 q pos : Pos} (hc : X.calm = true) (hg : Gl X "len") (hm : X.mg "len" = none) (hg2 : Gl X "set") (hm2 : X.mg "set" = none) (ha : PE X a ta)
    (na : starEach [a] X.env = (false, eval a X.env) :: starEach [] X.env := by rfl) : PE X (.Call (.Name "len" p) [.Call (.Name "set" p2) [a] [] q] [] pos) (tLenS X.K ta) := by
  refine ⟨fun pins s σ H Q I h => ?_⟩
  refine Call_ (ld_blt I hg hm boot_len ?_)
  refine PyProof.Rows.callWith_builtin1 (PyProof.Rows.args_cons ?_ rfl) rfl rfl
  refine Call_ (ld_blt I hg2 hm2 boot_set ?_)
  refine PyProof.Rows.callWith_type1 (PyProof.Rows.args_cons (thn (ha.run pins s σ H _ I h) fun v s1 ⟨x, H1, I1, r1, q1⟩ => PyProof.Rows.args_nil ?_) na) na rfl
  obtain ⟨l, xs, rfl, hq, hl, q1⟩ := q1
  cases r1
  obtain ⟨its, r, pl, hz⟩ := I1.list hq
  have hlen : its.toArray.size = xs.length := by rw [List.size_toArray, ← r.length, List.length_map]
  refine call_set_keys (knd := strKind X.prog X.w) (I1.ok.hd hc) pl.isList hlen (fun i v hv => ?_) (by unfold scanBound; omega) fun h' tk hS hk => ?_
  · obtain ⟨y, t, e1, rfl⟩ := strs_at r i v (by simpa using hv)
    exact ⟨y, e1, strKind_is _ _ _ _, rfl⟩
  · refine PyProof.Rows.args_nil ?_
    obtain ⟨o, es, ep, t, ho, hex, hd, _, _, hsb, hf, hn⟩ := hS
    have I2 : Inv X pins σ H1 { s1 with heap := h', toks := tk } := I1.kept hk
    have hfit : ((es.size : Nat) : Int) < 2 ^ 63 := by unfold scanBound at hsb; omega
    exact call_len_set ho hex hd hf hfit ⟨.int (uniq xs).length, H1, I2.tok _, ⟨_, by rw [hn]⟩, q1⟩
section
variable {Z : Zn} {ρ : Ro} {M : Mu} {te : TE} {Q2 : DQ}
theorem we_lenS (h : WE Z te ρ M fun d M1 => ∃ xs : List Str, LstOf M1 d (xs.map DV.s) ∧ xs.length ≤ 4000 ∧ Q2 (.i ((uniq xs).length : Nat)) M1) : WE Z (tLenS Z.W.K te) ρ M Q2 := fun G σ H Q s R E r =>
  h G σ H _ s R E fun d v G1 M1 H1 s1 R1 x q => by
    obtain ⟨xs, l, hl, q⟩ := q
    obtain ⟨a, ys, e1, e2, e3⟩ := lst_at R1 x l
    rw [datL_str e3] at e2
    exact ⟨a, xs, e1, SqL.of e2, hl, r _ _ G1 M1 H1 s1 R1 dat_v' q⟩
end
end DL
set_option Elab.async false
set_option linter.all false
set_option maxRecDepth 100000
set_option maxHeartbeats 4000000
namespace DL
open PySem PySem.Spec PyProof.Rows L2
/-- what the text says of an own class with == -/
structure EqC (K : PySem.W.Frag) (C f : Addr) : Prop where
  heq : PySem.W.findIn K (.ref C) "__eq__" = some (some (.ref f))
  hne : PySem.W.findIn K (.ref C) "__ne__" = some (some (.builtin "object.__ne__"))
  hf : PySem.W.isFn K (.ref f) = true
  hm : PySem.W.mroIn K C (.type "object") = some true
  hcl : Cls K C
  hcs : PySem.W.findIn K (.ref C) "__class__" = some (some (.builtin "object.__class__"))
  hcg : PySem.W.specialIn K (.builtin "object.__class__") "__get__" = some (some (.builtin "getset_descriptor.__get__"))
  hct : PySem.W.takesIn K (.builtin "object.__class__") = some true
section
variable {X : Cx} {CX : CXT} {k : Nat} {f C : Addr} {fd : FuncData} {ps : List Str} {sp : Sp} {E : XK}
theorem run_own {A : Around} {pins : List (Addr × Obj)} {σ : L2.St} {H : Hp} {s : Shared} {Q : VK} {us : List Value} {vs : List V} (F : FnOk X.prog X.w X.K X.mg X.base CX k f fd ps sp) (hA : A.frames = X.A.frames) (hr : Room k A) (hb : Binds X.K fd ps []) (hx : Passes CX X E)
    (I : Inv X pins σ H s) (r : Vals vs us) (h : sp vs H Q E) : wpAny (model X.prog X.w) A (call (.ref f) us) (EP X pins σ Q) X.xe s := by
  have hl : us.length = ps.length := by rw [← r.length]; exact F.len _ _ _ _ h
  have e0 : Env0 X.prog X.w X.K X.mg X.base A X.stack s H := by
    have e := I.env0
    exact ⟨by rw [hA]; exact e.frames, e.mod, e.bs, e.bsz, e.funs, e.frf, e.hok, e.bare⟩
  have hbb := hb s us I.kIn (by simpa using hl)
  rw [List.append_nil] at hbb
  refine wpAny_call (codeAny_mono (F.run A X.stack s H ⟨us, []⟩ us vs Q E hr e0 hbb r h) fun rr s' hq => ?_)
  cases rr with
  | error e => exact hx pins σ H s e s' I hq
  | ok fl =>
    cases fl with
    | ret u => exact I.after hq
    | next => exact False.elim hq
    | brk => exact False.elim hq
    | cont => exact False.elim hq
/-- len(x) by an own __len__ -/
theorem call_lenO {fl : Addr} (hl : PySem.W.findIn X.K (.ref C) "__len__" = some (some (.ref fl))) (hf : PySem.W.isFn X.K (.ref fl) = true) (F : FnOk X.prog X.w X.K X.mg X.base CX k fl fd ps sp) (hr : Room (k + 1) X.A) (hb : Binds X.K fd ps []) (hx : Passes CX X E) :
    CallR X (.builtin "len") (fun xs H Q => ∃ (a dx : Addr) (fs : List (Str × V)), xs = [.ref a] ∧ H a = some (.ins C dx fs) ∧ sp [.ref a] H (fun v H' => ∃ n : Int, v = .int n ∧ 0 ≤ n ∧ n < 2 ^ 63 ∧ Q (.int n) H') E) := by
  intro pins s σ H xs us Q I r h
  obtain ⟨a, dx, fs, rfl, ha, h⟩ := h
  obtain ⟨u, rfl, ru⟩ := vals1 r
  cases ru
  obtain ⟨mA, J, _⟩ := ins_get I.hok ha
  obtain ⟨od, J, _⟩ := J.look
  obtain ⟨m, hF⟩ := I.fr
  refine PySem.W.len_K hF I.ok.mod.kin J hl hf ?_
  refine thn (run_own F rfl hr.in1 hb hx I (show Vals [V.ref a] [Value.ref a] from .cons rfl .nil) h) fun z s' hz => ?_
  obtain ⟨zv, H', I', rz, n, rfl, h0, h1, q⟩ := hz
  obtain ⟨t, rfl⟩ := rz
  exact ⟨⟨h0, h1⟩, .int n, H', I'.tok _, ⟨_, rfl⟩, q⟩
end
section
variable {W : Wd} {Z : Zn} {G G' F : Hp} {ρ : Ro} {M : Mu} {H : Hp} {te ta tb : TE} {tx tk : TA} {Q2 : DQ} {d e x y : DV} {ds es : List DV} {sp2 : Sp2} {E : XK} {E2 : XK2} {ns : List Str}
theorem wc_lenO {C : Addr} (hx : XcOk Z E2 E) (o : ObjOf M x C ns ds) (h : sp2 [x] M (fun v M' => ∃ n : Int, v = .i n ∧ 0 ≤ n ∧ n < 2 ^ 63 ∧ Q2 (.i n) M') E2) :
    WC Z (fun xs H Q => ∃ (a dx : Addr) (fs : List (Str × V)), xs = [.ref a] ∧ H a = some (.ins C dx fs) ∧ lift Z.W sp2 [.ref a] H (fun v H' => ∃ n : Int, v = .int n ∧ 0 ≤ n ∧ n < 2 ^ 63 ∧ Q (.int n) H') E) [x] M Q2 := fun G H vs Q s R xs r => by
  obtain ⟨y, e0, h0⟩ := one_of xs
  obtain ⟨a, ddx, zs, e1, e2, e3, e4⟩ := obj_at R h0 o
  subst e0 e1
  refine ⟨a, ddx, _, rfl, e2, G, Z.F, [x], M, _, E2, R, xs, h, ?_, hx.mono s⟩
  intro d v G' M' H' s' R' hv q
  obtain ⟨n, rfl, h1, h2, q⟩ := q
  exact ⟨n, dat_v.mp hv, h1, h2, r _ _ G' M' H' s' R' dat_v' q⟩
theorem tyD_obj {C : Addr} {f : Addr} (T : EqC W.K C f) (o : ObjOf M d C ns ds) : TyD W M d (.ref C) := fun G F H v R h => by
  obtain ⟨a, dx, xs, e1, e2, e3, e4⟩ := obj_at R h o
  rw [e1]
  exact .base (.ins e2 T.hcl T.hcs T.hcg T.hct T.hm)
end
end DL
set_option Elab.async false
set_option linter.all false
set_option maxRecDepth 100000
set_option maxHeartbeats 4000000
namespace DL
open PySem PySem.Spec PyProof.Rows L2
abbrev orR (r r' : R2) : R2 := fun x y H Q => r x y H Q ∨ r' x y H Q
abbrev orC (r r' : List V → Hp → VK → Prop) : List V → Hp → VK → Prop := fun xs H Q => r xs H Q ∨ r' xs H Q
abbrev orL (r r' : V → Option Int → Option Int → Hp → VK → Prop) : V → Option Int → Option Int → Hp → VK → Prop := fun x l u H Q => r x l u H Q ∨ r' x l u H Q
theorem CallR.or {X : Cx} {f : Value} {r r' : List V → Hp → VK → Prop} (h : CallR X f r) (h' : CallR X f r') : CallR X f (orC r r') := by
  intro pins s σ H xs us Q I rx q
  rcases q with q | q
  · exact h pins s σ H xs us Q I rx q
  · exact h' pins s σ H xs us Q I rx q
theorem SlR.or {X : Cx} {r r' : V → Option Int → Option Int → Hp → VK → Prop} (h : SlR X r) (h' : SlR X r') : SlR X (orL r r') := by
  intro pins s σ H x v vl vu lo hi sl Q I rx hs pl pu q
  rcases q with q | q
  · exact h pins s σ H x v vl vu lo hi sl Q I rx hs pl pu q
  · exact h' pins s σ H x v vl vu lo hi sl Q I rx hs pl pu q
section
variable {Z : Zn} {r r' : R2} {x y d : DV} {M : Mu} {Q2 : DQ} {xs : List DV} {c c' : List V → Hp → VK → Prop} {l l' : V → Option Int → Option Int → Hp → VK → Prop} {lo hi : Option Int}
theorem wr_l (h : WR Z r x y M Q2) : WR Z (orR r r') x y M Q2 := fun G H vx vy Q s R dx dy k => .inl (h G H vx vy Q s R dx dy k)
theorem wr_r (h : WR Z r' x y M Q2) : WR Z (orR r r') x y M Q2 := fun G H vx vy Q s R dx dy k => .inr (h G H vx vy Q s R dx dy k)
theorem wc_l (h : WC Z c xs M Q2) : WC Z (orC c c') xs M Q2 := fun G H vs Q s R dx k => .inl (h G H vs Q s R dx k)
theorem wc_r (h : WC Z c' xs M Q2) : WC Z (orC c c') xs M Q2 := fun G H vs Q s R dx k => .inr (h G H vs Q s R dx k)
theorem wl_l (h : WL Z l x lo hi M Q2) : WL Z (orL l l') x lo hi M Q2 := fun G H vx Q s R dx k => .inl (h G H vx Q s R dx k)
theorem wl_r (h : WL Z l' x lo hi M Q2) : WL Z (orL l l') x lo hi M Q2 := fun G H vx Q s R dx k => .inr (h G H vx Q s R dx k)
end
def rAddI : R2 := rI0 fun i j => .int (i + j)
def rAddS : R2 := fun x y H Q => ∃ i j, x = .str i ∧ y = .str j ∧ i.length + j.length ≤ sizeLine ∧ Q (.str (i ++ j)) H
def rAddA (K : PySem.W.Frag) : R2 := orR rAddI (orR rAddS (orR rCat (rCatT K)))
section
variable {X : Cx}
theorem op_addA : OpR X (binaryOp .Add) (rAddA X.K) := OpR.or op_add (OpR.or op_add_str (OpR.or op_cat op_catT))
end
section
variable {W : Wd} {Z : Zn} {G G' F : Hp} {ρ : Ro} {σ : L2.St} {M : Mu} {H : Hp} {te ta tb tc : TE} {tt tu : TT} {ts tr : TS} {tx : TA} {Q2 Q2' : DQ} {D2 : Ends2} {d e x y : DV} {ds es : List DV} {v : V}
theorem wr_addI {i j : Int} (h : Q2 (.i (i + j)) M) : WR Z (rAddA Z.W.K) (.i i) (.i j) M Q2 := wr_l (wr_I0 h)
theorem wr_addS {i j : Str} (hz : i.length + j.length ≤ sizeLine) (h : Q2 (.s (i ++ j)) M) : WR Z (rAddA Z.W.K) (.s i) (.s j) M Q2 := wr_r (wr_l fun G H vx vy Q s R dx dy r =>
  ⟨i, j, dat_v.mp dx, dat_v.mp dy, hz, r _ _ G M H (Same.refl G) R dat_v' h⟩)
theorem wr_addL (l : LstOf M x ds) (k : LstOf M y es) (hz : ds.length + es.length ≤ sizeLine) (h : Q2 (.lst (ds ++ es)) M) : WR Z (rAddA Z.W.K) x y M Q2 := wr_r (wr_r (wr_l (wr_cat l k hz h)))
end
def rMulA : R2 := orR (rI CMul fun i j => .int (i * j)) rRep
section
variable {X : Cx} {Z : Zn} {M : Mu} {Q2 : DQ} {x : DV} {ds : List DV}
theorem op_mulA : OpR X (binaryOp .Mult) rMulA := OpR.or op_mul op_rep
theorem wr_mulI {i j : Int} (hc : CMul i j) (h : Q2 (.i (i * j)) M) : WR Z rMulA (.i i) (.i j) M Q2 := wr_l (wr_I hc h)
theorem wr_mulL {k : Int} (l : LstOf M x ds) (h1 : -(2 ^ 63) ≤ k) (h2 : k < 2 ^ 63) (hz : ds.length * k.toNat ≤ sizeLine) (h : Q2 (.lst (List.replicate k.toNat ds).flatten) M) : WR Z rMulA x (.i k) M Q2 := wr_r (wr_rep l h1 h2 hz h)
end
def rInA (K : PySem.W.Frag) : R2 := orR (rIn K false) (rInD K)
def rNiA (K : PySem.W.Frag) : R2 := orR (rIn K true) (rNotInD K)
section
variable {X : Cx} {W : Wd} {Z : Zn} {G F H : Hp} {M : Mu} {Q2 : DQ} {x y d : DV} {ds : List DV} {v : V}
theorem op_niA (hu : X.A.units + 65 < cLine) : OpR X (compareOp .NotIn) (rNiA X.K) := OpR.or op_notIn_seq (op_notInD hu)
theorem wr_inF {p : V} {xs : List V} (l : SqOf M y (xs.map DV.v)) (hp : flatV p = true) (hx : xs.all flatV = true) (h : Q2 (.b (inV p xs)) M) : WR Z (rInA Z.W.K) (.v p) y M Q2 := wr_l fun G H vx vy Q s R dx dy r => by
  obtain ⟨a, zs, e1, e2, e3⟩ := sq_at rfl R dy l
  rw [datL_vs e3] at e2
  rw [dat_v.mp dx]
  exact ⟨a, xs, e1, e2, hp, hx, r _ _ G M H (Same.refl G) R dat_v' h⟩
theorem wr_niF {p : V} {xs : List V} (l : SqOf M y (xs.map DV.v)) (hp : flatV p = true) (hx : xs.all flatV = true) (h : Q2 (.b (!inV p xs)) M) : WR Z (rNiA Z.W.K) (.v p) y M Q2 := wr_l fun G H vx vy Q s R dx dy r => by
  obtain ⟨a, zs, e1, e2, e3⟩ := sq_at rfl R dy l
  rw [datL_vs e3] at e2
  rw [dat_v.mp dx]
  exact ⟨a, xs, e1, e2, hp, hx, r _ _ G M H (Same.refl G) R dat_v' h⟩
theorem wr_niDA {p : PyData} {qs : List PyData} (h1 : PyOf M x p) (h2 : PyOf M y (.list qs)) (s1 : SeqAt.shaped p = true) (s2 : SeqAt.shaped (.list qs) = true) (h : Q2 (.b (!qs.any fun z => PyData.eqv z p)) M) : WR Z (rNiA Z.W.K) x y M Q2 := wr_r (wr_notInD h1 h2 s1 s2 h)
end
section
variable {X : Cx} {W : Wd} {Z : Zn} {G F H : Hp} {ρ : Ro} {M : Mu} {Q2 : DQ} {x y d e : DV} {ds es : List DV} {v : V} {D2 : Ends2} {te ta tb : TE}
theorem wr_atL {k : Int} (l : LstOf M d ds) (h1 : atI ds k = some e) (h : Q2 e M) : WR Z (rIx Z.W.K) d (.i k) M Q2 := fun G H vx vy Q s R dx dy r => .inl (wr_ixL l h1 h G H vx vy Q s R dx dy r)
theorem wr_atT {k : Int} (h1 : atI ds k = some e) (h : Q2 e M) : WR Z (rIx Z.W.K) (.tup ds) (.i k) M Q2 := fun G H vx vy Q s R dx dy r => .inr (.inl (wr_ixT h1 h G H vx vy Q s R dx dy r))
theorem wr_atS {z : Str} {k : Int} {c : Nat} (hz : z.length ≤ sizeLine) (h1 : atI z.cps.toList k = some c) (h : Q2 (.s ⟨#[c]⟩) M) : WR Z (rIx Z.W.K) (.s z) (.i k) M Q2 := fun G H vx vy Q s R dx dy r => .inr (.inr (wr_ixS hz h1 h G H vx vy Q s R dx dy r))
def rSlA (K : PySem.W.Frag) : V → Option Int → Option Int → Hp → VK → Prop := orL (rSlL K) (orL rSlS (rSlT K))
theorem sl_A : SlR X (rSlA X.K) := SlR.or sl_list (SlR.or sl_str sl_tup)
theorem wl_A {lo hi : Option Int} (l : LstOf M x ds) (h : Q2 (.lst (cutD ds lo hi)) M) : WL Z (rSlA Z.W.K) x lo hi M Q2 := wl_l (wl_list l h)
theorem wl_A0 {lo hi : Option Int} {a : Addr} {xs : List V} (hs : SqL Z.W.K Z.G a xs) (h : Q2 (.lst ((cutV xs lo hi).map DV.v)) M) : WL Z (rSlA Z.W.K) (.r a) lo hi M Q2 := wl_l (wl_list0 hs h)
theorem wl_AS {lo hi : Option Int} {z : Str} (hz : z.length ≤ sizeLine) (h : Q2 (.s (cutS z lo hi)) M) : WL Z (rSlA Z.W.K) (.s z) lo hi M Q2 := wl_r (wl_l fun G H vx Q s R dx r =>
  ⟨z, dat_v.mp dx, hz, r _ _ G M H (Same.refl G) R dat_v' h⟩)
theorem wl_AT {lo hi : Option Int} (hn : ¬ (HT.sIx ds.length 0 lo = 0 ∧ HT.sIx ds.length ds.length hi = ds.length)) (h : Q2 (.tup (cutD ds lo hi)) M) : WL Z (rSlA Z.W.K) (.tup ds) lo hi M Q2 := wl_r (wl_r fun G H vx Q s R dx r => by
  obtain ⟨a, xs, e1, e2, e3⟩ := dat_tup.mp dx
  refine ⟨a, xs, e1, sqt_mono R.ex e2, by rw [e3.length]; exact hn, fun p hp => ?_⟩
  have sn := same_new (o := .tup (cutV xs lo hi)) (R.gnone hp)
  exact r _ _ _ M _ sn (R.new hp) (dat_tup.mpr ⟨p, _, rfl, SqT.of upd_same, (datL_cut lo hi e3).mono sn⟩) h)
def rLenQ (K : PySem.W.Frag) : List V → Hp → VK → Prop := fun xs H Q => ∃ p ys, xs = [.ref p] ∧ (SqL K H p ys ∨ SqT K H p ys) ∧ Q (.int ys.length) H
def rLenT : List V → Hp → VK → Prop := fun xs H Q => ∃ z : Str, xs = [.str z] ∧ z.length ≤ sizeLine ∧ Q (.int z.length) H
theorem call_lenA : CallR X (.builtin "len") (orC (rLenQ X.K) rLenT) := CallR.or call_len_seq call_len_str
theorem wc_lenQ (l : SqOf M d ds) (h : Q2 (.i (ds.length : Nat)) M) : WC Z (orC (rLenQ Z.W.K) rLenT) [d] M Q2 := wc_l (wc_len l h)
theorem wc_lenT {z : Str} (hz : z.length ≤ sizeLine) (h : Q2 (.i (z.length : Nat)) M) : WC Z (orC (rLenQ Z.W.K) rLenT) [.s z] M Q2 := wc_r (wc_lenS hz h)
def rListQ (K : PySem.W.Frag) : List V → Hp → VK → Prop := fun xs H Q => ∃ p ys, xs = [.ref p] ∧ (SqL K H p ys ∨ SqT K H p ys) ∧ ∀ l, H l = none → Q (.ref l) (upd H l (.lst ys))
theorem call_listQ : CallR X (.type "list") (rListQ X.K) := call_list_of
theorem wc_listQ (l : SqOf M d ds) (h : Q2 (.lst ds) M) : WC Z (rListQ Z.W.K) [d] M Q2 := wc_list l h
theorem wc_listQM (l : SqOf M d ds) (h : ∀ p, M p = none → Q2 (.r p) (updM M p (.lst ds))) : WC Z (rListQ Z.W.K) [d] M Q2 := wc_listM l h
def rTupQ (K : PySem.W.Frag) : List V → Hp → VK → Prop := fun xs H Q => ∃ p ys, xs = [.ref p] ∧ ((SqL K H p ys ∧ ∀ l, H l = none → Q (.ref l) (upd H l (.tup ys))) ∨ (SqT K H p ys ∧ Q (.ref p) H))
theorem call_tupQ : CallR X (.type "tuple") (rTupQ X.K) := call_tuple_of
theorem wc_tupQ (l : SqOf M d ds) (h : Q2 (.tup ds) M) : WC Z (rTupQ Z.W.K) [d] M Q2 := wc_tuple l h
def rInt1 : List V → Hp → VK → Prop := fun xs H Q => (∃ i, xs = [.int i] ∧ Q (.int i) H) ∨ ∃ k, xs = [.bl k] ∧ Q (.int (if k then 1 else 0)) H
theorem call_intQ : CallR X (.type "int") rInt1 := call_int1
theorem wc_intB {k : Bool} (h : Q2 (.i (if k then 1 else 0)) M) : WC Z rInt1 [.b k] M Q2 := fun G H vs Q s R x r => by
  obtain ⟨y, e1, h1⟩ := one_of x
  rw [dat_v.mp h1] at e1
  exact .inr ⟨k, e1, r _ _ G M H (Same.refl G) R dat_v' h⟩
theorem wc_intI {k : Int} (h : Q2 (.i k) M) : WC Z rInt1 [.i k] M Q2 := fun G H vs Q s R x r => by
  obtain ⟨y, e1, h1⟩ := one_of x
  rw [dat_v.mp h1] at e1
  exact .inl ⟨k, e1, r _ _ G M H (Same.refl G) R dat_v' h⟩
def WSet (Z : Zn) (t : TSet) (o i v : DV) (M : Mu) (P2 : Mu → Prop) : Prop :=
  ∀ G H vo vi vv P, Same Z.G G → Rep Z.W G M Z.F H → Dat Z.W G o vo → Dat Z.W G i vi → Dat Z.W G v vv → (∀ G' M' H', Same G G' → Rep Z.W G' M' Z.F H' → P2 M' → P H') → t vo vi vv H P
theorem wg_sub {t : TSet} {P2 : Ro → Mu → Prop} (h : WE Z ta ρ M fun o M1 => WE Z tb ρ M1 fun i M2 => WSet Z t o i d M2 fun M3 => P2 ρ M3) : WG Z (gSub ta tb t) d ρ M P2 := fun G σ H v P s R E x n =>
  h G σ H _ s R E fun o vo G1 M1 H1 s1 R1 xo q => q G1 σ H1 _ (s.trans s1) R1 (E.mono s1) fun i vi G2 M2 H2 s2 R2 xi q2 =>
    q2 G2 H2 vo vi v _ ((s.trans s1).trans s2) R2 (xo.mono s2) xi ((x.mono s1).mono s2) fun G3 M3 H3 s3 R3 q3 => n ρ σ G3 M3 H3 ((s1.trans s2).trans s3) R3 (((E.mono s1).mono s2).mono s3) q3
theorem wset_list {a : Addr} {k : Int} {j : Nat} {P2 : Mu → Prop} (hm : M a = some (.lst ds)) (hj : ixN ds.length k = some j) (h : P2 (updM M a (.lst (ds.set j d)))) : WSet Z rSetL (.r a) (.i k) d M P2 := fun G H vo vi vv P s R xo xi xv n => by
  obtain ⟨xs, h1, h2⟩ := (R.mu a _ hm).2
  refine ⟨a, xs, k, j, dat_v.mp xo, dat_v.mp xi, h1, by rw [h2.length]; exact hj, ?_⟩
  exact n G _ _ (Same.refl G) (R.write (mo' := .lst (ds.set j d)) hm ⟨_, upd_same, h2.set j xv⟩) h
theorem datL_erase {xs : List V} : ∀ {ds : List DV} {xs : List V} (j : Nat), DatL W G ds xs → DatL W G (ds.eraseIdx j) (xs.eraseIdx j)
  | [], xs, j, h => by rw [datL_nil.mp h]; exact datL_nil'
  | e :: ds, xs, 0, h => by
    obtain ⟨z, r, e1, a, t⟩ := datL_cons.mp h
    subst e1
    exact t
  | e :: ds, xs, j + 1, h => by
    obtain ⟨z, r, e1, a, t⟩ := datL_cons.mp h
    subst e1
    exact datL_cons' a (datL_erase (xs := xs) j t)
theorem wm_popAt {a : Addr} {i : Int} {k : Nat} (hm : M a = some (.lst ds)) (h1 : -(2 ^ 63) ≤ i) (h2 : i < 2 ^ 63) (h3 : seqIndex? i ds.length = some k) (h4 : ds[k]? = some e) (h : Q2 e (updM M a (.lst (ds.eraseIdx k)))) : WM Z rPopAt (.r a) [.i i] M Q2 := fun G H vx vs Q s R x xs r => by
  obtain ⟨y, e1, hy⟩ := one_of xs
  rw [dat_v.mp hy] at e1
  obtain ⟨ys, g1, g2⟩ := (R.mu a _ hm).2
  obtain ⟨z, g3, g4⟩ := g2.get h4
  refine ⟨a, ys, i, k, z, dat_v.mp x, e1, g1, h1, h2, by rw [g2.length]; exact h3, g3, ?_⟩
  exact r _ _ G _ _ (Same.refl G) (R.write (mo' := .lst (ds.eraseIdx k)) hm ⟨_, upd_same, datL_erase (xs := ys) k g2⟩) g4 h
/-- a, b = x, y -/
theorem ws_par {i j : Nat} {tx : TA} (h : WA Z tx ρ M fun ds M1 => ∃ d e, ds = [d, e] ∧ D2.nx ((ρ.set i (some d)).set j (some e)) M1) : WS Z (tPar i j tx) D2 ρ M := fun G σ H D s R E k =>
  h G σ H _ s R E fun ds vs G1 M1 H1 s1 R1 x q => by
    obtain ⟨d, e, rfl, q⟩ := q
    obtain ⟨y, z, e1, hy, hz⟩ := two_of x
    exact ⟨y, z, e1, k.nx _ _ G1 M1 H1 s1 R1 (((E.mono s1).set hy).set hz) q⟩
def rJoin (K : PySem.W.Frag) : V → List V → Hp → VK → Prop := fun x xs H Q => ∃ a p, ∃ ys : List Str, x = .str a ∧ xs = [.ref p] ∧ (SqL K H p (ys.map V.str) ∨ SqT K H p (ys.map V.str)) ∧ (ys.map (·.length)).sum + ys.length * a.length ≤ 16777216 ∧ Q (.str (Txt.join a ys)) H
theorem mt_joinA : MtR X "str.join" (rJoin X.K) := mt_join
theorem wm_join {a : Str} {ys : List Str} (l : LstOf M d (ys.map DV.s)) (hz : (ys.map (·.length)).sum + ys.length * a.length ≤ 16777216) (h : Q2 (.s (Txt.join a ys)) M) : WM Z (rJoin Z.W.K) (.s a) [d] M Q2 := fun G H vx vs Q s R x xs r => by
  obtain ⟨y, e1, h1⟩ := one_of xs
  obtain ⟨p, zs, e2, e3, e4⟩ := lst_at R h1 l
  rw [datL_str e4] at e3
  subst e1 e2
  exact ⟨a, p, ys, dat_v.mp x, rfl, .inl (SqL.of e3), hz, r _ _ G M H (Same.refl G) R dat_v' h⟩
def rStrip : V → List V → Hp → VK → Prop := fun x xs H Q => ∃ a b, x = .str a ∧ xs = [.str b] ∧ a.length ≤ sizeLine ∧ Q (.str (Txt.stripChars a b)) H
theorem mt_stripA : MtR X "str.strip" rStrip := mt_stripChars
theorem wm_strip {a b : Str} (hz : a.length ≤ sizeLine) (h : Q2 (.s (Txt.stripChars a b)) M) : WM Z rStrip (.s a) [.s b] M Q2 := fun G H vx vs Q s R x xs r => by
  obtain ⟨y, e1, h1⟩ := one_of xs
  rw [dat_v.mp h1] at e1
  exact ⟨a, b, dat_v.mp x, e1, hz, r _ _ G M H (Same.refl G) R dat_v' h⟩
def isNonD : DV → Bool
  | .v x => decide (x = .non)
  | _ => false
theorem isNonD_of {W : Wd} {G : Hp} {d : DV} {v : V} (x : Dat W G d v) : isNonD d = decide (v = .non) := by
  cases d with
  | v y => rw [dat_v.mp x]; rfl
  | tup ds => obtain ⟨a, _, e, _⟩ := dat_tup.mp x; rw [e]; rfl
  | lst ds => obtain ⟨a, _, e, _⟩ := dat_lst.mp x; rw [e]; rfl
  | obj C ns ds => obtain ⟨a, _, _, e, _⟩ := dat_obj.mp x; rw [e]; rfl
  | dk ks ds => obtain ⟨a, _, e, _⟩ := dat_dk.mp x; rw [e]; rfl
  | dl ks ds => obtain ⟨a, _, e, _⟩ := dat_dl.mp x; rw [e]; rfl
  | fn q o => obtain ⟨a, _, e, _⟩ := dat_fn.mp x; rw [e]; rfl
def iSeq (K : PySem.W.Frag) (tl : TE) : TI := fun σ H R => tl σ H fun x H1 => ∃ a, x = .ref a ∧ (((∃ xs, SqL K H1 a xs) ∧ R (Itl K a) H1) ∨ ((∃ xs, SqT K H1 a xs) ∧ R (Itt K a) H1))
theorem pi_seq {tg l : Expr} {tl : TE} (hl : PE X l tl) : PI X tg l (iSeq X.K tl) := by
  refine ⟨fun pins s σ H R I h => ?_⟩
  refine thn (hl.run pins s σ H _ I h) fun v s1 ⟨x, H1, I1, r1, a, e, q1⟩ => ?_
  subst e
  cases r1
  rcases q1 with ⟨⟨xs, hq⟩, q⟩ | ⟨⟨xs, hq⟩, q⟩
  · obtain ⟨its, rv, p, hz⟩ := I1.list hq
    refine wpAny_pyIter_list p.isList ⟨s1.heap.objs.size, [s1.heap.objs.size], _, _, H1, rfl, I1.kept (t' := s1.toks) fun b o e => Heap.get?_push_of_some _ e, turn_list a _, ⟨_, Heap.get?_push_size _ rfl, rfl, rfl⟩, fun b hb => ?_, q⟩
    rw [show b = s1.heap.objs.size by simpa using hb]
    exact I1.fpOk (Nat.le_refl _) (I1.hok.fresh (Nat.le_refl _))
  · obtain ⟨its, rv, p, hz⟩ := I1.tuple hq
    refine wpAny_pyIter_tuple (show s1.heap.IsTuple a its.toArray from p) ⟨s1.heap.objs.size, [s1.heap.objs.size], _, _, H1, rfl, I1.kept (t' := s1.toks) fun b o e => Heap.get?_push_of_some _ e, turn_tuple a _, ⟨_, Heap.get?_push_size _ rfl, rfl, rfl⟩, fun b hb => ?_, q⟩
    rw [show b = s1.heap.objs.size by simpa using hb]
    exact I1.fpOk (Nat.le_refl _) (I1.hok.fresh (Nat.le_refl _))
theorem wi_seq {tl : TE} {R2 : List DV → Mu → Prop} (h : WE Z tl ρ M fun d M1 => ∃ ds, (d = .lst ds ∨ d = .tup ds) ∧ R2 ds M1) : WI Z (iSeq Z.W.K tl) ρ M R2 := fun G σ H R s Rp E r =>
  h G σ H _ s Rp E fun d v G1 M1 H1 s1 R1 x q => by
    obtain ⟨ds, e, q⟩ := q
    rcases e with rfl | rfl
    · obtain ⟨a, xs, e1, e2, e3⟩ := dat_lst.mp x
      exact ⟨a, e1, .inl ⟨⟨xs, SqL.of (R1.ex _ _ e2)⟩, r ds _ G1 M1 H1 s1 R1 (itl_ok (SqL.of e2) e3) q⟩⟩
    · obtain ⟨a, xs, e1, e2, e3⟩ := dat_tup.mp x
      exact ⟨a, e1, .inr ⟨⟨xs, sqt_mono R1.ex e2⟩, r ds _ G1 M1 H1 s1 R1 (itt_ok e2 e3) q⟩⟩
end
end DL
set_option Elab.async false
set_option linter.all false
set_option maxRecDepth 100000
set_option maxHeartbeats 2000000
namespace DL
open PySem PySem.Spec PyProof.Rows L2
section
variable {X : Cx} {E : XK}
theorem passF : Passes (L2.CX X.prog X.w) X (fun _ _ _ => False) := passes_call takes0 fun _ _ _ _ h => h
theorem passE {W : WX} (tk : Takes X W) (hW : ∀ cls d σ H, E cls d H → W cls d σ H) : Passes (L2.CX X.prog X.w) X E := passes_call tk hW
end
section
variable {W : Wd} {Z : Zn} {G G' F : Hp} {ρ : Ro} {σ : L2.St} {M : Mu} {H : Hp} {te ta tb tc : TE} {tt tu : TT} {ts tr : TS} {tx : TA} {Q2 Q2' : DQ} {D2 : Ends2} {d e x y : DV} {ds es : List DV} {v : V} {wi : TI} {g : TG} {E : XK} {E2 : XK2} {sp2 : Sp2}
theorem xcF : XcOk Z (fun _ _ _ _ => False) (fun _ _ _ => False) := fun _ _ _ _ _ _ _ _ _ _ h => h
/-- a call within a try -/
theorem we_callS {W2 : WX2} {Wx : WX} (hw : WxOk Z W2 Wx) (h : WA Z tx ρ M fun ds M1 => sp2 ds M1 Q2 (fun C ns es M' => W2 C ns es ρ M')) : WE Z (tCallS (lift Z.W sp2) (L2.WE Wx) tx) ρ M Q2 := fun G σ H Q s R En r =>
  h G σ H _ s R En fun ds vs G1 M1 H1 s1 R1 x q => ⟨G1, Z.F, ds, M1, Q2, _, R1, x, q, r.mono s1, fun C ns es d G' M' H' s' R' x' q' => hw C ns es d ρ σ G' M' H' (s.trans (s1.trans s')) R' (En.mono (s1.trans s')) x' q'⟩
def rEqA (K : PySem.W.Frag) : R2 := orR rEq (rEqD K)
def rNeA (K : PySem.W.Frag) : R2 := orR rNe (rNeD K)
theorem op_eqA {X : Cx} (hu : X.A.units + 64 < cLine) : OpR X (compareOp .Eq) (rEqA X.K) := OpR.or op_eq (op_eqD hu)
theorem op_neA {X : Cx} (hu : X.A.units + 64 < cLine) : OpR X (compareOp .NotEq) (rNeA X.K) := OpR.or op_ne (op_neD hu)
theorem wr_eqS {x y : V} (hs : scal x y = true) (h : Q2 (.b (decide (x = y))) M) : WR Z (rEqA Z.W.K) (.v x) (.v y) M Q2 := wr_l (wr_eq hs h)
theorem wr_neS {x y : V} (hs : scal x y = true) (h : Q2 (.b (!decide (x = y))) M) : WR Z (rNeA Z.W.K) (.v x) (.v y) M Q2 := wr_l (wr_ne hs h)
theorem wr_eqP {p q : PyData} (h1 : PyOf M x p) (h2 : PyOf M y q) (s1 : SeqAt.shaped p = true) (s2 : SeqAt.shaped q = true) (h : Q2 (.b (PyData.eqv p q)) M) : WR Z (rEqA Z.W.K) x y M Q2 := wr_r (wr_eqD h1 h2 s1 s2 h)
theorem wr_neP {p q : PyData} (h1 : PyOf M x p) (h2 : PyOf M y q) (s1 : SeqAt.shaped p = true) (s2 : SeqAt.shaped q = true) (h : Q2 (.b (!PyData.eqv p q)) M) : WR Z (rNeA Z.W.K) x y M Q2 := wr_r (wr_neD h1 h2 s1 s2 h)
def rIsN : R2 := fun x y H Q => y = .non ∧ Q (.bl (decide (x = .non))) H
def rNotN : R2 := fun x y H Q => y = .non ∧ Q (.bl (!decide (x = .non))) H
theorem op_isNA {X : Cx} : OpR X (compareOp .Is) rIsN := op_isN
theorem wr_isN (h : Q2 (.b (isNonD x)) M) : WR Z rIsN x .n M Q2 := fun G H vx vy Q s R dx dy r => ⟨dat_v.mp dy, r _ _ G M H (Same.refl G) R dat_v' (by rw [← isNonD_of dx]; exact h)⟩
theorem wr_notN (h : Q2 (.b (!isNonD x)) M) : WR Z rNotN x .n M Q2 := fun G H vx vy Q s R dx dy r => ⟨dat_v.mp dy, r _ _ G M H (Same.refl G) R dat_v' (by rw [← isNonD_of dx]; exact h)⟩
theorem datL_vv : ∀ {xs : List V} {vs : List V}, DatL W G (xs.map DV.v) vs → vs = xs
  | [], vs, h => datL_nil.mp h
  | x :: xs, vs, h => by
    obtain ⟨z, r, e1, a, t⟩ := datL_cons.mp h
    subst e1
    rw [dat_v.mp a, datL_vv t]
theorem wm_index {ys : List V} {p z : V} {j : Nat} (l : LstOf M d (ys.map DV.v)) (hp : flatV p = true) (hx : ys.all flatV = true) (hz : ys[j]? = some z) (he : eqV z p = true) (hn : ∀ (m : Nat) (z' : V), m < j → ys[m]? = some z' → eqV z' p = false) (h : Q2 (.i (j : Nat)) M) :
    WM Z (rIndex Z.W.K) d [.v p] M Q2 := fun G H vx vs Q s R x xs r => by
  obtain ⟨y, e1, h1⟩ := one_of xs
  rw [dat_v.mp h1] at e1
  obtain ⟨a, zs, e2, e3, e4⟩ := lst_at R x l
  rw [datL_vv e4] at e3
  exact ⟨a, ys, p, j, z, e2, e1, SqL.of e3, hp, hx, hz, he, hn, r _ _ G M H (Same.refl G) R dat_v' h⟩
theorem hu64 {A : Around} {k : Nat} (hr : Room k A) : A.units + 64 < cLine := hr.units
end
end DL
set_option Elab.async false
set_option linter.all false
set_option maxRecDepth 100000
set_option maxHeartbeats 2000000
namespace DL
open PySem PySem.Spec PyProof.Rows L2
abbrev Df (K : PySem.W.Frag) (x qual : Str) (st : Stmt) (dvs : List V) (f : Addr) (fd : FuncData) : Prop := FunD K x qual (defArgs st) (defBody st) (defScope st) dvs [] f fd
section
variable {P : Program} {w : World} {K : PySem.W.Frag} {mg : Str → Option Value} {base : Heap} {x qual : Str} {st : Stmt} {dvs : List V} {f : Addr} {fd : FuncData} {N ps : List Str} {k : Nat}
theorem df_mk {oc : Value} {od an : Option Addr} {osl : Array (Option Value)} {kV doc pm cdv ct : Value} (l : K.lookup f = some ⟨oc, od, .func (PySem.W.fnOf x qual (defArgs st) (defBody st) (defScope st) .none kV doc pm an cdv ct), osl⟩)
    (c : PySem.W.codeIn K cdv qual = true) (k : PySem.W.keepIn K (.ref f) = true) : Df K x qual st [] f (PySem.W.fnOf x qual (defArgs st) (defBody st) (defScope st) .none kV doc pm an cdv ct) :=
  ⟨⟨oc, od, .none, kV, doc, pm, an, cdv, ct, osl, rfl, l, c, .inl ⟨rfl, rfl⟩, .inl rfl⟩, k⟩
theorem df_mkD {oc oc2 : Value} {od od2 an : Option Addr} {osl osl2 : Array (Option Value)} {kV doc pm cdv ct : Value} {T : Addr} {its : List Value} {n : Nat} (l : K.lookup f = some ⟨oc, od, .func (PySem.W.fnOf x qual (defArgs st) (defBody st) (defScope st) (.ref T) kV doc pm an cdv ct), osl⟩)
    (c : PySem.W.codeIn K cdv qual = true) (k : PySem.W.keepIn K (.ref f) = true) (lT : K.lookup T = some ⟨oc2, od2, .seq its.toArray n, osl2⟩) (hn : dvs ≠ []) (r : Vals dvs its) :
    Df K x qual st dvs f (PySem.W.fnOf x qual (defArgs st) (defBody st) (defScope st) (.ref T) kV doc pm an cdv ct) :=
  ⟨⟨oc, od, .ref T, kV, doc, pm, an, cdv, ct, osl, rfl, l, c, .inr ⟨hn, T, _, its, n, rfl, lT, rfl, r⟩, .inl rfl⟩, k⟩
theorem okD {sp2 : Sp2} (F : Df K x qual st dvs f fd) (S : FnScope N ps (defScope st)) (len : ∀ ds M Q2 E2, sp2 ds M Q2 E2 → ds.length = ps.length)
    (hbody : ∀ (cdv : Value) (A : Around) (outer : List Env) (s : Shared) (H : Hp) (E : XK) (G Fr : Hp) (ds : List DV) (M : Mu) (Q2 : DQ) (E2 : XK2), Room k (A.deeper (envOfC qual (defScope st) s.heap.objs.size f cdv)) → sp2 ds M Q2 E2 →
      ∃ t, PSs (cxOf CX0 P w K mg base N qual (defScope st) f cdv A outer s H E).nox (defBody st) t ∧ WS (Z_ P w K G Fr) t { nx := fun _ M' => Q2 .n M', rt := Q2 } (start2 N ds) M) :
    FnOk P w K mg base CX0 (k + 1) f fd ps (lift ⟨P, w, K⟩ sp2) := by
  refine F.ok S (lift_len len) fun cdv A outer s H vs Q E hr h => ?_
  obtain ⟨G, Fr, ds, M, Q2, E2, R, x, q, r, ex⟩ := h
  obtain ⟨t, h1, h2⟩ := hbody cdv A outer s H E G Fr ds M Q2 E2 hr q
  exact ⟨t, h1.nox, h2 G _ H _ (Same.refl G) R (env_start x) ⟨fun ρ' σ' G' M' H' s' R' _ q' => r _ _ G' M' H' s' R' dat_v' q', r, fun _ _ _ _ _ _ _ _ z => z.elim, fun _ _ _ _ _ _ _ _ z => z.elim⟩⟩
theorem okDX {sp2 : Sp2} (F : Df K x qual st dvs f fd) (S : FnScope N ps (defScope st)) (len : ∀ ds M Q2 E2, sp2 ds M Q2 E2 → ds.length = ps.length)
    (hbody : ∀ (cdv : Value) (A : Around) (outer : List Env) (s : Shared) (H : Hp) (E : XK) (G Fr : Hp) (ds : List DV) (M : Mu) (Q2 : DQ) (E2 : XK2), Room k (A.deeper (envOfC qual (defScope st) s.heap.objs.size f cdv)) → sp2 ds M Q2 E2 → XcOk (Z_ P w K G Fr) E2 E →
      ∃ t, PSs (cxOf (L2.CX P w) P w K mg base N qual (defScope st) f cdv A outer s H E) (defBody st) t ∧ WS (Z_ P w K G Fr) t { nx := fun _ M' => Q2 .n M', rt := Q2 } (start2 N ds) M) :
    FnOk P w K mg base (L2.CX P w) (k + 1) f fd ps (lift ⟨P, w, K⟩ sp2) := by
  refine F.ok S (lift_len len) fun cdv A outer s H vs Q E hr h => ?_
  obtain ⟨G, Fr, ds, M, Q2, E2, R, x, q, r, ex⟩ := h
  obtain ⟨t, h1, h2⟩ := hbody cdv A outer s H E G Fr ds M Q2 E2 hr q ex
  exact ⟨t, h1, h2 G _ H _ (Same.refl G) R (env_start x) ⟨fun ρ' σ' G' M' H' s' R' _ q' => r _ _ G' M' H' s' R' dat_v' q', r, fun _ _ _ _ _ _ _ _ z => z.elim, fun _ _ _ _ _ _ _ _ z => z.elim⟩⟩
/-- class C(B): def __init__(self, f): B.__init__(self, '..'); self.f = f -/
theorem okInit1 {C : Addr} {n fl m : Str} {ps : List Str} (F : Df K x qual st dvs f fd) (S : FnScope ps ps (defScope st)) (hp : ps.length = 2) (T : OexC K C) (hno : PySem.W.findIn K (.ref C) fl = some none)
    (hb : ∀ (cdv : Value) (A : Around) (outer : List Env) (s : Shared) (H : Hp) (E : XK), Room k (A.deeper (envOfC qual (defScope st) s.heap.objs.size f cdv)) →
      PSs (cxOf CX0 P w K mg base ps qual (defScope st) f cdv A outer s H E).nox (defBody st) (tSeq (tDrop (tVeI K (tCons (tVar 0) (tCons (tC (.str m)) tNil)))) (tOst K fl (tVar 0) (tVar 1)))) :
    FnOk P w K mg base CX0 (k + 1) f fd ps (spX1 C fl) := by
  refine F.ok S (fun vs H Q E h => ?_) fun cdv A outer s H vs Q E hr h => ?_
  · obtain ⟨a, v, rfl, _⟩ := h
    exact hp.symm
  · obtain ⟨a, v, rfl, e, q⟩ := h
    refine ⟨_, (hb cdv A outer s H E hr).nox, ?_⟩
    have h0 : (L2.start ps [.ref a, v])[0]? = some (some (.ref a)) := rfl
    have h1 : (L2.start ps [.ref a, v])[1]? = some (some v) := rfl
    refine ⟨_, h0, a, C, _, rfl, by show 1 ≤ 1000; decide, T, e, ?_⟩
    exact ⟨_, h1, _, h0, a, C, rfl, T, hno, .inl ⟨e, fun d h1 h2 => q d h1 h2⟩⟩
end
theorem bt_len : bootBuiltins "len" = some (.builtin "len") := by decide +kernel
theorem bt_sorted : bootBuiltins "sorted" = some (.builtin "sorted") := by decide +kernel
theorem bt_isinstance : bootBuiltins "isinstance" = some (.builtin "isinstance") := by decide +kernel
theorem bt_all : bootBuiltins "all" = some (.builtin "all") := by decide +kernel
theorem bt_set : bootBuiltins "set" = some (.type "set") := by decide +kernel
theorem bt_list : bootBuiltins "list" = some (.type "list") := by decide +kernel
theorem bt_tuple : bootBuiltins "tuple" = some (.type "tuple") := by decide +kernel
theorem bt_int : bootBuiltins "int" = some (.type "int") := by decide +kernel
theorem bt_str : bootBuiltins "str" = some (.type "str") := by decide +kernel
theorem bt_bool : bootBuiltins "bool" = some (.type "bool") := by decide +kernel
theorem hu65 {A : Around} {k : Nat} (hr : Room k A) : A.units + 65 < cLine := by
  have := hr.un
  omega
end DL
set_option Elab.async false
set_option linter.all false
set_option maxRecDepth 100000
set_option maxHeartbeats 2000000
namespace DL
open PySem PySem.Spec PyProof.Rows L2
def pick {α : Type} (is : List Nat) (ws : List α) : List α := is.filterMap fun i => ws[i]?
section
variable {X : Cx} {CX : CXT} {k : Nat} {f C : Addr} {fd : FuncData} {ps ks : List Str} {sp : Sp} {E : XK} {x m : Str} {p pos apos kpos : Pos} {e o : Expr} {es : List Expr} {kws : List Keyword} {te ta : TE} {t tk : TA} {nm : Option Str}
  {g : List Value → List Value → List Value} {gV : List V → List V → List V}
theorem pe_callK0 (F : FnOk X.prog X.w X.K X.mg X.base CX k f fd ps sp) (hr : Room k X.A) (hg : Gl X x) (hm : X.mg x = some (.ref f)) (hk : PySem.W.keepIn X.K (.ref f) = true) (hb : KBn X.K fd ps 0 ks g gV) (hx : Passes CX X E)
    (hkw : PK X kws tk) (hall : (backToKw pos (keywordEach kws X.env)).all (·.1.isSome) = true := by rfl) (hks : (backToKw pos (keywordEach kws X.env)).filterMap (·.1) = ks := by rfl)
    (hdb : (x == ("__debug__" : Str)) = false := by decide)
    (hpl : ((backTo pos (starEach [] X.env)).any (·.1) || (backToKw pos (keywordEach kws X.env)).any (·.1.isNone)) = false := by rfl) :
    PE X (.Call (.Name x p) [] kws pos) (tCallN 0 ks.length sp gV E tNil tk) := by
  refine ⟨fun pins s σ H Q I h => ?_⟩
  refine wpAny_Call_Name_kw (ld_glob I hg hm ?_ hdb)
  refine PySem.W.callWith_KW0 (h₀ := X.base) I.ok.mod.kin hk hall ?_ hpl
  refine thn (hkw.run pos pins s σ H _ I h) fun ws s2 ⟨zs, H2, I2, rz, l1, l2, q2⟩ => ⟨I2.kIn, ?_⟩
  rw [hks]
  exact run_fnN (us := []) (vs := []) F hr hb hx I2 .nil rz l1 l2 q2
theorem paired_get {α β : Type} {R : α → β → Prop} : ∀ {xs : List α} {ys : List β} (i : Nat), Paired R xs ys → (xs[i]? = none ∧ ys[i]? = none) ∨ ∃ a b, xs[i]? = some a ∧ ys[i]? = some b ∧ R a b
  | [], [], i, .nil => .inl ⟨rfl, rfl⟩
  | a :: xs, b :: ys, 0, .cons h _ => .inr ⟨a, b, rfl, rfl, h⟩
  | a :: xs, b :: ys, i + 1, .cons _ h => paired_get (xs := xs) (ys := ys) i h
theorem paired_pick {α β : Type} {R : α → β → Prop} {xs : List α} {ys : List β} (h : Paired R xs ys) : ∀ is : List Nat, Paired R (pick is xs) (pick is ys)
  | [] => .nil
  | i :: is => by
    have ih := paired_pick h is
    unfold pick at ih ⊢
    rcases paired_get i h with ⟨e1, e2⟩ | ⟨a, b, e1, e2, r⟩
    · rw [List.filterMap_cons_none e1, List.filterMap_cons_none e2]
      exact ih
    · rw [List.filterMap_cons_some e1, List.filterMap_cons_some e2]
      exact .cons r ih
end
section
variable {W : Wd} {Z : Zn} {G G' F : Hp} {ρ : Ro} {σ : L2.St} {M : Mu} {H : Hp} {tx tk : TA} {Q2 : DQ} {ds es : List DV} {E : XK} {E2 : XK2} {sp2 : Sp2}
theorem datL_pick {vs : List V} (h : DatL W G ds vs) : ∀ is : List Nat, DatL W G (pick is ds) (pick is vs)
  | [] => datL_nil'
  | i :: is => by
    have ih := datL_pick h is
    unfold pick at ih ⊢
    cases e : ds[i]? with
    | none =>
      have e2 : vs[i]? = none := by
        rw [List.getElem?_eq_none_iff] at e ⊢
        rw [h.length]
        exact e
      rw [List.filterMap_cons_none e, List.filterMap_cons_none e2]
      exact ih
    | some d =>
      obtain ⟨z, h1, h2⟩ := h.get e
      rw [List.filterMap_cons_some e, List.filterMap_cons_some h1]
      exact datL_cons' h2 ih
end
def spL (K : PySem.W.Frag) : Sp := fun vs H Q _ => ∃ (a : Addr) (ns : List Int), vs = [.ref a] ∧ SqL K H a (ns.map V.int) ∧ ns.length ≤ 63 ∧ ∀ H', Q (.bl true) H'
theorem okLaw {P : Program} {w : World} {K : PySem.W.Frag} {mg : Str → Option Value} {base : Heap} {x qual n : Str} {st : Stmt} {dvs : List V} {f : Addr} {fd : FuncData} {N : List Str} {k : Nat} (F : Df K x qual st dvs f fd) (S : FnScope N [n] (defScope st))
    (hbody : ∀ (cdv : Value) (A : Around) (outer : List Env) (s : Shared) (H : Hp) (E : XK) (a : Addr) (ns : List Int), Room k (A.deeper (envOfC qual (defScope st) s.heap.objs.size f cdv)) → SqL K H a (ns.map V.int) → ns.length ≤ 63 →
      ∃ t, PSs (cxOf CX0 P w K mg base N qual (defScope st) f cdv A outer s H E).nox (defBody st) t ∧ WS (Z_ P w K H (fun _ => none)) t { nx := fun _ _ => False, rt := fun d _ => d = .b true } (start2 N [.r a]) (fun _ => none)) :
    FnOk P w K mg base CX0 (k + 1) f fd [n] (spL K) := by
  refine F.ok S (fun vs H Q E h => ?_) fun cdv A outer s H vs Q E hr h => ?_
  · obtain ⟨a, ns, rfl, _⟩ := h
    rfl
  · obtain ⟨a, ns, rfl, h1, h2, q⟩ := h
    obtain ⟨t, k1, k2⟩ := hbody cdv A outer s H E a ns hr h1 h2
    refine ⟨t, k1.nox, k2 H _ H _ (Same.refl H) ⟨Same.refl H, fun _ _ z => (by cases z), fun _ _ z => (by cases z), fun _ _ z => (by cases z)⟩ (env_start (datL_cons' dat_v' datL_nil')) ⟨fun _ _ _ _ _ _ _ _ z => z.elim, fun d v G' M' H' _ _ x e => ?_, fun _ _ _ _ _ _ _ _ z => z.elim, fun _ _ _ _ _ _ _ _ z => z.elim⟩⟩
    subst e
    rw [dat_v.mp x]
    exact q H'
theorem walkL {l : PySem.W.OpenLaw} {q : Program} {loose : List Str} {XP : (Str → Option Value) → Heap → Prop} {YP : World → Heap → Prop} {d : DefRec} {K : Params → PySem.W.Frag} {k : Nat} (hk : Room k callerA) (hn : l.most = some 63) (hdf : d.params.defaults = [])
    (hY : ∀ (w : World) (h : Heap), YP w h → (K w.params).In h)
    (F : ∀ (w : World) (mg : Str → Option Value) (fa : Addr) (h : Heap), (K w.params).In h → h.Ns mainGlobals mg → mg d.name = some (.ref fa) →
      ∃ fd : FuncData, (∀ (s : Shared) (u : Value), BindsTo s fd ⟨[u], []⟩ [("_law_script", u)]) ∧ ∀ base : Heap, (K w.params).In base → base.Ns mainGlobals mg → FnOk l.prog w (K w.params) mg base CX0 k fa fd ["_law_script"] (spL (K w.params))) :
    PySem.W.WalkO q loose XP YP l.row.toRowW d [] (fun f vs => PySem.call f vs) :=
  L2.walk_of (n := 63) (k := k) (x := "_law_script") (CX := fun _ => CX0) (sp := fun w => spL (K w.params)) hn (by decide) hdf hk hY F (fun w H a ns hl _ hS => ⟨a, ns, rfl, hS, hl, fun _ => rfl⟩) fun _ _ _ _ _ z => z
end DL
set_option Elab.async false
set_option linter.all false
set_option maxRecDepth 100000
set_option maxHeartbeats 2000000
namespace DL
open PySem PySem.Spec PyProof.Rows L2
inductive Kd where
  | int | str | bool | none | list | tuple | dict
deriving DecidableEq
def Kd.nm : Kd → String
  | .int => "int" | .str => "str" | .bool => "bool" | .none => "NoneType" | .list => "list" | .tuple => "tuple" | .dict => "dict"
def kdM (M : Mu) : DV → Option Kd
  | .v (.int _) => some .int
  | .v (.str _) => some .str
  | .v (.bl _) => some .bool
  | .v .non => some .none
  | .v (.ref a) => match M a with
    | some (.lst _) => some .list
    | _ => Option.none
  | .tup _ => some .tuple
  | .lst _ => some .list
  | .dk _ _ => some .dict
  | _ => Option.none
theorem kd_r {M : Mu} {a : Addr} {ds : List DV} (h : M a = some (.lst ds)) : kdM M (.r a) = some .list := by
  show (match M a with | some (.lst _) => some Kd.list | _ => Option.none) = _
  rw [h]
theorem kd_of {M : Mu} {d : DV} {ds : List DV} (l : LstOf M d ds) : kdM M d = some .list := by
  rcases l with rfl | ⟨a, rfl, h⟩
  · rfl
  · exact kd_r h
theorem tyD_kd {W : Wd} {M : Mu} {d : DV} {k : Kd} (h : kdM M d = some k) : TyD W M d (.type k.nm) := by
  unfold kdM at h
  split at h
  all_goals first | cases h | skip
  · exact tyD_int
  · exact tyD_str
  · exact tyD_bl
  · exact tyD_non
  · split at h
    · rename_i e
      cases h
      exact tyD_lst (.inr ⟨_, rfl, e⟩)
    · cases h
  · exact tyD_tup
  · exact tyD_lst (.inl rfl)
  · exact tyD_dk
def subK (k t : Kd) : Bool := decide (k = t) || (decide (k = .bool) && decide (t = .int))
theorem kit_kd {K : PySem.W.Frag} {k t : Kd} : PySem.W.kitOne K (.type k.nm) (.type t.nm) = some (subK k t) := by
  cases k <;> cases t <;> exact kit_ty (by decide +kernel)
section
variable {W : Wd} {Z : Zn} {ρ : Ro} {M : Mu} {Q2 : DQ} {d : DV}
theorem wc_isK (t : Kd) {k : Kd} (hk : kdM M d = some k) (h : Q2 (.b (subK k t)) M) : WC Z (rIsi Z.W.K) [d, .v (.ty t.nm)] M Q2 := wc_isi (.ty _) (tyD_kd hk) kit_kd h
theorem wc_isC {C : Addr} {k : Kd} {b : Bool} (hk : kdM M d = some k) (hc : PySem.W.kitOne Z.W.K (.type k.nm) (.ref C) = some b) (h : Q2 (.b b) M) : WC Z (rIsi Z.W.K) [d, .v (.ref C)] M Q2 := wc_isi (.own C) (tyD_kd hk) hc h
end
theorem ex_b {P : Bool → Prop} {x : Bool} (h : P x) : ∃ b, DV.b x = DV.b b ∧ P b := ⟨x, rfl, h⟩
theorem if_b {b : Bool} {A B : Prop} (h1 : b = true → A) (h2 : b = false → B) : if b = true then A else B := by
  cases b
  · rw [if_neg Bool.false_ne_true]; exact h2 rfl
  · rw [if_pos rfl]; exact h1 rfl
theorem if_tt {b : Bool} {A B : Prop} (e : b = true) (h : A) : if b = true then A else B := by rw [if_pos e]; exact h
theorem if_ff {b : Bool} {A B : Prop} (e : b = false) (h : B) : if b = true then A else B := by rw [e, if_neg Bool.false_ne_true]; exact h
end DL
set_option Elab.async false
set_option linter.all false
set_option maxRecDepth 100000
set_option maxHeartbeats 2000000
namespace DL
open PySem PySem.Spec PyProof.Rows L2
theorem passZ {X : Cx} : Passes CX0 X (fun _ _ _ => False) := pass0
section
variable {W : Wd} {Z : Zn} {G G' F : Hp} {ρ : Ro} {σ : L2.St} {M : Mu} {H : Hp} {te ta tb tc : TE} {tt tu : TT} {ts tr : TS} {tx : TA} {Q2 Q2' : DQ} {D2 : Ends2} {d e x y : DV} {ds es : List DV} {v : V} {wi : TI} {g : TG}
theorem WG.imp {P P' : Ro → Mu → Prop} (h : WG Z g d ρ M P) (k : ∀ ρ' M', P ρ' M' → P' ρ' M') : WG Z g d ρ M P' := fun G σ H v Q s R E x n => h G σ H v Q s R E x fun ρ' σ' G' M' H' s' R' E' q => n ρ' σ' G' M' H' s' R' E' (k _ _ q)
/-- each turn gives a thing; a word of what is made so far -/
theorem comp_word {k : List DV → Mu → Prop} (I : Nat → List DV → Mu → Prop) : ∀ (items : List DV) (j : Nat) (acc : List DV) (M : Mu), acc.length + items.length ≤ sizeLine → I j acc M →
    (∀ i d acc M F, items[i]? = some d → I (j + i) acc M → WG (Z.fr F) g d ρ M fun ρ2 M2 => WT (Z.fr F) tt ρ2 M2 fun b M3 => b = true ∧ WE (Z.fr F) te ρ2 M3 fun y M4 => I (j + i + 1) (acc ++ [y]) M4) →
    (∀ acc M, I (j + items.length) acc M → k acc M) → Comp Z g tt te ρ k items acc M
  | [], j, acc, M, hz, h0, hs, hk => hk acc M h0
  | d :: ds, j, acc, M, hz, h0, hs, hk => by
    simp only [List.length_cons] at hz
    refine ⟨by omega, fun F => ?_⟩
    refine (hs 0 d acc M F rfl h0).imp fun ρ2 M2 q => q.imp fun b M3 ⟨hb, q2⟩ => ?_
    rw [if_pos hb]
    refine q2.imp fun y M4 q3 => ?_
    refine comp_word I ds (j + 1) (acc ++ [y]) M4 (by simp; omega) q3 (fun i d' acc' M' F' hi hI => ?_) fun acc' M' h => hk acc' M' ?_
    · have := hs (i + 1) d' acc' M' F' hi (by rw [show j + (i + 1) = j + 1 + i by omega]; exact hI)
      rw [show j + (i + 1) = j + 1 + i by omega] at this
      exact this
    · rw [List.length_cons, show j + (ds.length + 1) = j + 1 + ds.length by omega]
      exact h
/-- each turn of a for; a word by the number of turns -/
theorem loop_word (I : Nat → Ro → Mu → Prop) : ∀ (items : List DV) (j : Nat) (ρ : Ro) (M : Mu), I j ρ M →
    (∀ i d ρ M, items[i]? = some d → I (j + i) ρ M → WG Z g d ρ M fun ρ1 M1 => WS Z ts { D2 with nx := I (j + i + 1), ct := I (j + i + 1), bk := D2.nx } ρ1 M1) →
    (∀ ρ M, I (j + items.length) ρ M → D2.nx ρ M) → Loop Z g ts D2 items ρ M
  | [], j, ρ, M, h0, hs, hk => hk ρ M h0
  | d :: ds, j, ρ, M, h0, hs, hk => by
    refine (hs 0 d ρ M rfl h0).imp fun ρ1 M1 q => ?_
    have key : ∀ ρ M, I (j + 1) ρ M → Loop Z g ts D2 ds ρ M := fun ρ' M' h => loop_word I ds (j + 1) ρ' M' h (fun i d' ρ2 M2 hi hI => by
      have := hs (i + 1) d' ρ2 M2 hi (by rw [show j + (i + 1) = j + 1 + i by omega]; exact hI)
      rw [show j + (i + 1) = j + 1 + i by omega] at this
      exact this) fun ρ2 M2 hI => hk ρ2 M2 (by rw [List.length_cons, show j + (ds.length + 1) = j + 1 + ds.length by omega]; exact hI)
    exact q.imp key (fun _ _ h => h) (fun _ _ h => h) key
end
mutual
def DV.good : DV → Bool
  | .v .non => true
  | .v (.bl _) => true
  | .v (.int _) => true
  | .v (.str z) => PyData.strOk z
  | .lst ds => goodL ds
  | .tup ds => goodL ds
  | _ => false
def goodL : List DV → Bool
  | [] => true
  | d :: ds => d.good && goodL ds
end
mutual
def DV.dep : DV → Nat
  | .lst ds => depL ds + 1
  | .tup ds => depL ds + 1
  | _ => 0
def depL : List DV → Nat
  | [] => 0
  | d :: ds => max d.dep (depL ds)
end
mutual
theorem good_py : ∀ d : DV, d.good = true → ∃ p, d.py = some p ∧ p.canLay0 = true ∧ p.depth = d.dep
  | .v x, h => by
    cases x <;> simp [DV.good] at h
    · exact ⟨_, rfl, rfl, rfl⟩
    · exact ⟨_, rfl, rfl, rfl⟩
    · exact ⟨_, rfl, rfl, rfl⟩
    · exact ⟨_, rfl, h, rfl⟩
  | .lst ds, h => by
    obtain ⟨ps, h1, h2, h3⟩ := goodL_py ds (by simpa [DV.good] using h)
    exact ⟨.list ps, by simp [DV.py, h1], by simpa [PyData.canLay0] using h2, by simp [PyData.depth, DV.dep, h3]⟩
  | .tup ds, h => by
    obtain ⟨ps, h1, h2, h3⟩ := goodL_py ds (by simpa [DV.good] using h)
    exact ⟨.tuple ps, by simp [DV.py, h1], by simpa [PyData.canLay0] using h2, by simp [PyData.depth, DV.dep, h3]⟩
  | .obj _ _ _, h => by simp [DV.good] at h
  | .dk _ _, h => by simp [DV.good] at h
  | .dl _ _, h => by simp [DV.good] at h
  | .fn _ _, h => by simp [DV.good] at h
theorem goodL_py : ∀ ds : List DV, goodL ds = true → ∃ ps, pyL ds = some ps ∧ PyData.canLayAll0 ps = true ∧ PyData.depthAll ps = depL ds
  | [], _ => ⟨[], rfl, rfl, rfl⟩
  | d :: ds, h => by
    simp only [goodL, Bool.and_eq_true] at h
    obtain ⟨p, h1, h2, h3⟩ := good_py d h.1
    obtain ⟨ps, g1, g2, g3⟩ := goodL_py ds h.2
    exact ⟨p :: ps, by simp [pyL, h1, g1], by simp [PyData.canLayAll0, h2, g2], by simp [PyData.depthAll, depL, h3, g3]⟩
end
section
variable {Z : Zn} {M : Mu} {Q2 : DQ} {x y d : DV} {ds : List DV}
theorem shaped_of {p : PyData} (h1 : p.canLay0 = true) (h2 : p.depth ≤ 64) : SeqAt.shaped p = true := by
  unfold SeqAt.shaped
  rw [h1, decide_eq_true h2]
  rfl
theorem pyOf_lst {ps : List PyData} (l : LstOf M x ds) (h : pyL ds = some ps) : PyOf M x (.list ps) := by
  rcases l with rfl | ⟨a, rfl, hm⟩
  · exact .inl (by simp [DV.py, h])
  · exact .inr ⟨a, ds, ps, rfl, hm, h, rfl⟩
theorem wr_eqLL (l : LstOf M x ds) (k : LstOf M y ds) (hg : goodL ds = true) (hd : depL ds ≤ 63) (h : Q2 (.b true) M) : WR Z (rEqA Z.W.K) x y M Q2 := by
  obtain ⟨ps, h1, h2, h3⟩ := goodL_py ds hg
  have c : (PyData.list ps).canLay0 = true := by simpa [PyData.canLay0] using h2
  have s := shaped_of c (by simp [PyData.depth, h3]; omega)
  refine wr_eqP (pyOf_lst l h1) (pyOf_lst k h1) s s ?_
  rw [SeqAt.eqv_refl _ c]
  exact h
theorem wr_neLL (l : LstOf M x ds) (k : LstOf M y ds) (hg : goodL ds = true) (hd : depL ds ≤ 63) (h : Q2 (.b false) M) : WR Z (rNeA Z.W.K) x y M Q2 := by
  obtain ⟨ps, h1, h2, h3⟩ := goodL_py ds hg
  have c : (PyData.list ps).canLay0 = true := by simpa [PyData.canLay0] using h2
  have s := shaped_of c (by simp [PyData.depth, h3]; omega)
  refine wr_neP (pyOf_lst l h1) (pyOf_lst k h1) s s ?_
  rw [SeqAt.eqv_refl _ c]
  exact h
end
theorem goodL_int : ∀ {r : List Int}, goodL (r.map DV.i) = true
  | [] => rfl
  | i :: r => by simp [goodL, DV.good, goodL_int (r := r)]
theorem depL_int : ∀ {r : List Int}, depL (r.map DV.i) = 0
  | [] => rfl
  | i :: r => by simp [depL, DV.dep, depL_int (r := r)]
theorem goodL_rows : ∀ {rows : List (List Int)}, goodL (rows.map rowD) = true
  | [] => rfl
  | r :: rows => by simp [goodL, rowD, DV.good, goodL_int, goodL_rows (rows := rows)]
theorem depL_rows : ∀ {rows : List (List Int)}, depL (rows.map rowD) ≤ 1
  | [] => by simp [depL]
  | r :: rows => by
    have := depL_rows (rows := rows)
    simp only [List.map_cons, depL, rowD, DV.dep, depL_int]
    omega
theorem goodL_strs : ∀ {zs : List Str}, (∀ z ∈ zs, PyData.strOk z = true) → goodL (zs.map DV.s) = true
  | [], _ => rfl
  | z :: zs, h => by simp [goodL, DV.good, h z List.mem_cons_self, goodL_strs fun y hy => h y (List.mem_cons_of_mem _ hy)]
theorem depL_strs : ∀ {zs : List Str}, depL (zs.map DV.s) = 0
  | [] => rfl
  | z :: zs => by simp [depL, DV.dep, depL_strs (zs := zs)]
theorem takeWhile_all {α : Type} {p : α → Bool} : ∀ {l : List α}, l.all p = true → l.takeWhile p = l
  | [], _ => rfl
  | a :: l, h => by
    simp only [List.all_cons, Bool.and_eq_true] at h
    simp [List.takeWhile_cons, h.1, takeWhile_all h.2]
theorem strip_letters {x y : Str} (h : x.cps.toList.all y.cps.contains = true) : Txt.stripChars x y = ⟨#[]⟩ := by
  unfold Txt.stripChars
  rw [PySem.W.stripBy_eq]
  show Builtin.Str.strSub x (stripLo _ true x) (stripHi _ true x (stripLo _ true x)) = _
  have e : stripLo y.cps.contains true x = x.cps.toList.length := by
    unfold stripLo
    rw [if_pos rfl, takeWhile_all h]
  rw [e]
  unfold stripHi Builtin.Str.strSub
  simp
end DL
set_option Elab.async false
set_option linter.all false
set_option maxRecDepth 100000
set_option maxHeartbeats 2000000
namespace DL
open PySem PySem.Spec PyProof.Rows L2
section
variable {X : Cx} {K : PySem.W.Frag} {P : Program} {w : World}
theorem k_ix (e : X.K = K) : IxR X (rIx K) := by subst e; exact ix_seq
theorem k_add (e : X.K = K) : OpR X (binaryOp .Add) (rAddA K) := by subst e; exact op_addA
theorem k_ni (e : X.K = K) (hu : X.A.units + 65 < cLine) : OpR X (compareOp .NotIn) (rNiA K) := by subst e; exact op_niA hu
theorem k_eq (e : X.K = K) (hu : X.A.units + 64 < cLine) : OpR X (compareOp .Eq) (rEqA K) := by subst e; exact op_eqA hu
theorem k_ne (e : X.K = K) (hu : X.A.units + 64 < cLine) : OpR X (compareOp .NotEq) (rNeA K) := by subst e; exact op_neA hu
theorem k_sl (e : X.K = K) : SlR X (rSlA K) := by subst e; exact sl_A
theorem k_len (e : X.K = K) : CallR X (.builtin "len") (orC (rLenQ K) rLenT) := by subst e; exact call_lenA
theorem k_list (e : X.K = K) : CallR X (.type "list") (rListQ K) := by subst e; exact call_listQ
theorem k_tup (e : X.K = K) : CallR X (.type "tuple") (rTupQ K) := by subst e; exact call_tupQ
theorem k_all (e : X.K = K) (hc : X.calm = true) : CallR X (.builtin "all") (rAll K) := by subst e; exact cr_all hc
theorem k_isi (e : X.K = K) : CallR X (.builtin "isinstance") (rIsi K) := by subst e; exact call_isi
theorem k_index (e : X.K = K) : MtR X "list.index" (rIndex K) := by subst e; exact mt_index
theorem k_join (e : X.K = K) : MtR X "str.join" (rJoin K) := by subst e; exact mt_joinA
theorem k_fld {e : Expr} {f : Str} {ta : TE} {pos : Pos} (eK : X.K = K) (he : PE X e ta) (hb : attributeBase e f X.env (eval e X.env) = eval e X.env) : PE X (.Attribute e f pos) (tFld K ta f) := by subst eK; exact pe_fld he hb
theorem k_seq {tg l : Expr} {tl : TE} (eK : X.K = K) (hl : PE X l tl) : PI X tg l (iSeq K tl) := by subst eK; exact pi_seq hl
theorem k_ls {tg l : Expr} {tl : TE} (eK : X.K = K) (hl : PE X l tl) : PI X tg l (iList K tl) := by subst eK; exact pi_list hl
theorem k_enum {e : Expr} {ta : TA} {p pos tpos : Pos} {elts : List Expr} {kk : Nat} (eK : X.K = K) (hg : Gl X "enumerate") (hm : X.mg "enumerate" = none) (ha : PA X [e] ta) (hs : starEach [e] X.env = [(false, eval e X.env)] := by rfl) :
    PI X (.Tuple elts kk tpos) (.Call (.Name "enumerate" p) [e] [] pos) (iEnum K ta) := by subst eK; exact pi_enum hg hm ha hs
theorem k_gtup {es : List Expr} {k : Nat} {t : TGs} {n : Nat} {pos : Pos} (eK : X.K = K) (hc : X.calm = true) (h : PGs X es t)
    (hn : (assignEach es X.env).length = n := by rfl) (hst : (assignEach es X.env).findIdx? (·.1) = none := by rfl) : PG X (.Tuple es k pos) (gTup K n t) := by subst eK; exact pg_tup hc h hn hst
theorem k_bm {o e : Expr} {es : List Expr} {to : TE} {t : TA} {name : Str} {apos cpos : Pos} {T id : String} {r : V → List V → Hp → VK → Prop} (eK : X.K = K) (pa : PlainAttrs T) (slot : Slot T name id) (hty : typeOf (.builtin id) = pure (.type "method_descriptor")) (hm : MtR X id r) (ho : PE X o to) (ha : PA X (e :: es) t)
    (hbase : attributeBase o name X.env (eval o X.env) = eval o X.env := by rfl)
    (hfew : ((backTo cpos (starEach (e :: es) X.env)).all (fun x => !x.1) && (backToKw cpos (keywordEach [] X.env)).all (fun x => x.1.isSome)
      && decide ((e :: es).length + ([] : List Keyword).length + (if ([] : List Keyword).isEmpty then 0 else 1) < 30)) = true := by rfl)
    (hline : (apos.endLine == cpos.line) = true := by rfl) (hs : starEach (e :: es) X.env = (false, eval e X.env) :: starEach es X.env := by rfl) (hplain : (backTo cpos (starEach es X.env)).any (·.1) = false := by rfl) :
    PE X (.Call (.Attribute o name apos) (e :: es) [] cpos) (tBM K T r to t) := by subst eK; exact pe_bm pa slot hty hm ho ha hbase hfew hline hs hplain
theorem k_lenS {a : Expr} {ta : TE} {p p2 q pos : Pos} (eK : X.K = K) (hc : X.calm = true) (hg : Gl X "len") (hm : X.mg "len" = none) (hg2 : Gl X "set") (hm2 : X.mg "set" = none) (ha : PE X a ta)
    (na : starEach [a] X.env = (false, eval a X.env) :: starEach [] X.env := by rfl) : PE X (.Call (.Name "len" p) [.Call (.Name "set" p2) [a] [] q] [] pos) (tLenS K ta) := by subst eK; exact pe_lenS hc hg hm hg2 hm2 ha na
end
end DL
set_option Elab.async false
set_option linter.all false
set_option maxRecDepth 100000
set_option maxHeartbeats 2000000
namespace DL
open PySem PySem.Spec PyProof.Rows L2
def well (A B C : Int) : MO := .lst [.i A, .i B, .i C]
/-- a well from which n were drawn at most -/
def WelO (mo : MO) (n : Nat) : Prop := ∃ A B C : Int, mo = well A B C ∧ 0 ≤ A ∧ 0 ≤ B ∧ B < 2147483647 ∧ 0 ≤ C ∧ C ≤ (n : Int)
theorem WelO.mono {mo : MO} {n m : Nat} (h : WelO mo n) (l : n ≤ m) : WelO mo m := by
  obtain ⟨A, B, C, e, h1, h2, h3, h4, h5⟩ := h
  exact ⟨A, B, C, e, h1, h2, h3, h4, by omega⟩
abbrev letters : Str := "abcdefghijklmnopqrstuvwxyz"
def nameB (z : Str) : Bool := decide ((1 : Int) ≤ ((z.length : Nat) : Int)) && (decide (((z.length : Nat) : Int) ≤ 8) && decide (V.str (Txt.stripChars z letters) = V.str ""))
/-- c is one of the letters -/
def isL (c : Nat) : Prop := 97 ≤ c ∧ c ≤ 122
theorem letters_list : letters.cps.toList = (List.range 26).map (· + 97) := by decide +kernel
theorem letters_len : letters.length = 26 := by decide +kernel
theorem letters_at {i : Nat} (h : i < 26) : letters.cps.toList[i]? = some (i + 97) := by
  rw [letters_list, List.getElem?_map, List.getElem?_range h]
  rfl
theorem letters_has {c : Nat} (h : isL c) : letters.cps.contains c = true := by
  have : c ∈ letters.cps.toList := by
    rw [letters_list, List.mem_map]
    exact ⟨c - 97, by rw [List.mem_range]; have := h.1; have := h.2; omega, by have := h.1; omega⟩
  rw [Array.contains_iff_mem]
  exact Array.mem_toList_iff.mp this
theorem name_ok {l : List Nat} (h1 : 1 ≤ l.length) (h8 : l.length ≤ 8) (hl : ∀ c ∈ l, isL c) : nameB ⟨l.toArray⟩ = true := by
  unfold nameB
  have e : (⟨l.toArray⟩ : Str).length = l.length := by show l.toArray.size = _; simp
  rw [e, strip_letters (y := letters) (by rw [List.all_eq_true]; intro c hc; exact letters_has (hl c (by simpa using hc)))]
  have a1 : decide ((1 : Int) ≤ ((l.length : Nat) : Int)) = true := decide_eq_true (by omega)
  have a2 : decide (((l.length : Nat) : Int) ≤ 8) = true := decide_eq_true (by omega)
  rw [a1, a2]
  rfl
theorem name_strOk {l : List Nat} (hl : ∀ c ∈ l, isL c) : PyData.strOk ⟨l.toArray⟩ = true := by
  unfold PyData.strOk
  rw [Array.all_eq_true']
  intro c hc
  have := (hl c (by simpa using hc)).2
  simp
  omega
/-- the k-th name -/
def nmL (b : List Nat) (spot more : Nat) (c : Nat) : List Nat := b.take spot ++ [c] ++ (b.drop spot).take more
theorem nmL_len {b : List Nat} {spot more c : Nat} (hb : b.length = 7) (h1 : spot ≤ 7) (h2 : more ≤ 7 - spot) : (nmL b spot more c).length = spot + 1 + more := by
  unfold nmL
  simp [hb]
  omega
theorem nmL_all {b : List Nat} {spot more c : Nat} (hb : ∀ x ∈ b, isL x) (hc : isL c) : ∀ x ∈ nmL b spot more c, isL x := by
  intro x hx
  unfold nmL at hx
  rw [List.mem_append, List.mem_append, List.mem_singleton] at hx
  rcases hx with (h | h) | h
  · exact hb x (List.mem_of_mem_take h)
  · rw [h]; exact hc
  · exact hb x (List.mem_of_mem_drop (List.mem_of_mem_take h))
theorem nmL_inj {b : List Nat} {spot more c d : Nat} (hb : b.length = 7) (h1 : spot ≤ 7) (e : nmL b spot more c = nmL b spot more d) : c = d := by
  unfold nmL at e
  rw [List.append_assoc, List.append_assoc] at e
  have := List.append_cancel_left e
  simpa using this
/-- the letter of the k-th name -/
def ltr (begin_ apart k : Nat) : Nat := (begin_ + apart * k) % 26 + 97
theorem ltr_is {begin_ apart k : Nat} : isL (ltr begin_ apart k) := by
  unfold ltr isL
  omega
theorem ltr_inj {b p k l : Nat} (hp : p ∈ [1, 3, 5, 7, 9, 11, 15, 17]) (hk : k < 26) (hl : l < 26) (e : ltr b p k = ltr b p l) : k = l := by
  unfold ltr at e
  simp only [List.mem_cons, List.not_mem_nil, or_false] at hp
  rcases hp with rfl | rfl | rfl | rfl | rfl | rfl | rfl | rfl <;> omega
def nmsL (b : List Nat) (spot more begin_ apart n : Nat) : List Str := (List.range n).map fun k => ⟨(nmL b spot more (ltr begin_ apart k)).toArray⟩
/-- names as the program wants them -/
structure Nms (zs : List Str) : Prop where
  nm : ∀ z ∈ zs, nameB z = true
  ok : ∀ z ∈ zs, PyData.strOk z = true
  nd : zs.Nodup
theorem nmsL_ok {b : List Nat} {spot more begin_ apart n : Nat} (hb : b.length = 7) (hl : ∀ x ∈ b, isL x) (h1 : spot ≤ 7) (h2 : more ≤ 7 - spot) (hp : apart ∈ [1, 3, 5, 7, 9, 11, 15, 17]) (hn : n ≤ 26) : Nms (nmsL b spot more begin_ apart n) where
  nm := fun z hz => by
    obtain ⟨k, _, rfl⟩ := List.mem_map.mp hz
    have := nmL_len (c := ltr begin_ apart k) hb h1 h2
    exact name_ok (by omega) (by omega) (nmL_all hl ltr_is)
  ok := fun z hz => by
    obtain ⟨k, _, rfl⟩ := List.mem_map.mp hz
    exact name_strOk (nmL_all hl ltr_is)
  nd := by
    unfold nmsL
    rw [List.Nodup, List.pairwise_map]
    refine List.Pairwise.imp_of_mem ?_ (List.nodup_range (n := n))
    intro k l hk hl' hne e
    rw [List.mem_range] at hk hl'
    apply hne
    have e2 : nmL b spot more (ltr begin_ apart k) = nmL b spot more (ltr begin_ apart l) := by
      injection e with e
      have := congrArg Array.toList e
      simpa using this
    exact ltr_inj hp (by omega) (by omega) (nmL_inj hb h1 e2)
theorem nmsL_len {b : List Nat} {spot more begin_ apart n : Nat} : (nmsL b spot more begin_ apart n).length = n := by simp [nmsL]
theorem nmsL_succ {b : List Nat} {spot more begin_ apart n : Nat} : nmsL b spot more begin_ apart (n + 1) = nmsL b spot more begin_ apart n ++ [⟨(nmL b spot more (ltr begin_ apart n)).toArray⟩] := by
  unfold nmsL
  rw [List.range_succ, List.map_append]
  rfl
theorem Nms.sub {zs ys : List Str} (h : Nms zs) (s : List.Sublist ys zs) : Nms ys := ⟨fun z hz => h.nm z (s.subset hz), fun z hz => h.ok z (s.subset hz), h.nd.sublist s⟩
theorem joinL_one : ∀ cs : List Nat, TL.joinL [] (cs.map fun c => [c]) = cs
  | [] => rfl
  | [c] => rfl
  | c :: d :: cs => by
    have := joinL_one (d :: cs)
    show [c] ++ ([] ++ TL.joinL [] ((d :: cs).map fun c => [c])) = _
    rw [this]
    rfl
theorem join_chars (cs : List Nat) : Txt.join ⟨#[]⟩ (cs.map fun c => (⟨#[c]⟩ : Str)) = ⟨cs.toArray⟩ := by
  refine TL.ext_tl ?_
  rw [TL.join_eq, TL.tl_join]
  have e : (cs.map fun c => (⟨#[c]⟩ : Str)).map TL.tl = cs.map fun c => [c] := by
    rw [List.map_map]
    rfl
  have e0 : TL.tl (⟨#[]⟩ : Str) = [] := rfl
  rw [e, e0, joinL_one]
end DL
set_option Elab.async false
set_option linter.all false
set_option maxRecDepth 100000
set_option maxHeartbeats 2000000
namespace DL
open PySem PySem.Spec PyProof.Rows L2
theorem str_app (a b : List Nat) : ((⟨a.toArray⟩ : Str) ++ (⟨b.toArray⟩ : Str)) = ⟨(a ++ b).toArray⟩ := by
  show Str.mk (a.toArray ++ b.toArray) = _
  simp
theorem str_len (a : List Nat) : (⟨a.toArray⟩ : Str).length = a.length := by
  show a.toArray.size = _
  simp
theorem cut_to (l : List Nat) (k : Nat) : cutS ⟨l.toArray⟩ none (some (k : Int)) = ⟨(l.take k).toArray⟩ := by
  unfold cutS
  rw [HT.sIx_none, HT.sIx_nat, str_len]
  simp only [List.drop_zero, Nat.sub_zero]
  congr 2
  by_cases h : k ≤ l.length
  · rw [Nat.min_eq_left h]
  · rw [Nat.min_eq_right (by omega), List.take_length, List.take_of_length_le (by omega)]
theorem cut_mid (l : List Nat) (j k : Nat) (h : j + k ≤ l.length) : cutS ⟨l.toArray⟩ (some (j : Int)) (some ((j : Int) + (k : Int))) = ⟨((l.drop j).take k).toArray⟩ := by
  have e : ((j : Int) + (k : Int)) = ((j + k : Nat) : Int) := by push_cast; rfl
  unfold cutS
  rw [e, HT.sIx_nat, HT.sIx_nat, str_len, Nat.min_eq_left h, Nat.min_eq_left (by omega : j ≤ l.length)]
  congr 3
  omega
theorem wm_appendT {Z : Zn} {M : Mu} {Q2 : DQ} {ds : List DV} {e : DV} {a : Addr} (hm : M a = some (.lst ds)) (hz : ds.length < 1000000) (h : Q2 .n (updM M a (.lst (ds ++ [e])))) : WM Z rAppend (.r a) [e] M Q2 := wm_append hm (Nat.lt_of_lt_of_le hz (by decide)) h
/-- a number not below nought -/
theorem nat_of {i : Int} (h : 0 ≤ i) : ∃ n : Nat, i = (n : Int) := ⟨i.toNat, (Int.toNat_of_nonneg h).symm⟩
theorem letters_get {n : Nat} (h : n < 26) : atI letters.cps.toList (n : Int) = some (n + 97) := atI_nat (letters_at h)
theorem aparts {n : Nat} (h : n < 8) : ∃ p : Nat, atI [DV.i 1, .i 3, .i 5, .i 7, .i 9, .i 11, .i 15, .i 17] (n : Int) = some (.i (p : Nat)) ∧ p ∈ [1, 3, 5, 7, 9, 11, 15, 17] := by
  have : n = 0 ∨ n = 1 ∨ n = 2 ∨ n = 3 ∨ n = 4 ∨ n = 5 ∨ n = 6 ∨ n = 7 := by omega
  rcases this with rfl | rfl | rfl | rfl | rfl | rfl | rfl | rfl
  · exact ⟨1, rfl, by decide⟩
  · exact ⟨3, rfl, by decide⟩
  · exact ⟨5, rfl, by decide⟩
  · exact ⟨7, rfl, by decide⟩
  · exact ⟨9, rfl, by decide⟩
  · exact ⟨11, rfl, by decide⟩
  · exact ⟨15, rfl, by decide⟩
  · exact ⟨17, rfl, by decide⟩
theorem rangeD_get {n i : Nat} {d : DV} (h : (rangeD 0 n)[i]? = some d) : i < n ∧ d = .i (i : Nat) := by
  unfold rangeD at h
  rw [List.getElem?_map] at h
  cases e : (List.range n)[i]? with
  | none => rw [e] at h; cases h
  | some j =>
    rw [e] at h
    have := List.getElem?_eq_some_iff.mp e
    obtain ⟨h1, h2⟩ := this
    rw [List.getElem_range] at h2
    subst h2
    cases h
    exact ⟨by simpa using h1, by simp⟩
theorem rangeD_len {n : Nat} {lo : Int} : (rangeD lo n).length = n := by simp [rangeD]
end DL
set_option Elab.async false
set_option linter.all false
set_option maxRecDepth 100000
set_option maxHeartbeats 2000000
namespace DL
open PySem PySem.Spec PyProof.Rows L2
def tTry (tb : WX → TS) (K : PySem.W.Frag) (c : Value) (i : Nat) (ts : Addr → Value → Option Addr → TS) (Wout : WX) : TS := fun D σ H => tb (wAs K c i ts Wout D) D σ H
theorem ps_tryA {X : Cx} {K : PySem.W.Frag} {body suite : List Stmt} {b₀ : Stmt} {x n : Str} {np pos' pos : Pos} {c : Value} {i : Nat} {Wout : WX} {tb : WX → TS} {ts : Addr → Value → Option Addr → TS} (eK : X.K = K)
    (hs : X.stack = X.env :: X.outer) (hf : X.env.frame = some X.env.locals) (hN : X.N.Nodup) (hi : X.N[i]? = some n) (hln : X.env.kindOf n = some .local) (hc : Names X x c) (tk : Takes X Wout)
    (hb : ∀ (W : WX) (pn : List (Addr × Obj)) (xe : Value → Shared → Prop), Takes (X.tr pn xe) W → PassesOwn (model X.prog X.w) X.A X.env xe → PSs (X.tr pn xe) body (tb W))
    (hsu : ∀ (a : Addr) (oe : Obj) (cls : Value) (d : Option Addr) (pn : List (Addr × Obj)), Zc cls d oe → (∃ vs, oe.data = .fields vs) → PSs (X.suite a ((a, oe) :: pn)) (b₀ :: suite) (ts a cls d)) :
    PS X (.Try body [.ExceptHandler (some (.Name x np)) (some n) (b₀ :: suite) pos'] [] [] pos) (tTry tb K c i ts Wout) := by
  subst eK
  exact ps_try_as hs hf hN hi hln hc tk hb hsu
theorem ws_tryA {Z : Zn} {ρ : Ro} {M : Mu} {D2 : Ends2} {tb : WX → TS} {c : Value} {i : Nat} {ts : Addr → Value → Option Addr → TS} {Wout : WX} (W2 : WX2)
    (hb : ∀ G1 Wx, Same Z.G G1 → WxOk (Z.at G1) W2 Wx → WS (Z.at G1) (tb Wx) D2 ρ M)
    (hs : ∀ C ns ds ρ' M', W2 C ns ds ρ' M' → PySem.W.exmOne Z.W.K (.ref C) c = some true ∧ ∀ G1 d a, Same Z.G G1 → XdOk Z.W G1 d ns ds →
      WS (Z.at G1) (ts a (.ref C) d) { nx := fun ρ2 M2 => D2.nx (ρ2.set i none) M2, rt := D2.rt, bk := fun ρ2 M2 => D2.bk (ρ2.set i none) M2, ct := fun ρ2 M2 => D2.ct (ρ2.set i none) M2 } (ρ'.set i (some (.r a))) M') :
    WS Z (tTry tb Z.W.K c i ts Wout) D2 ρ M := ws_try rfl W2 hb hs
end DL
set_option Elab.async false
set_option linter.all false
set_option maxRecDepth 100000
set_option maxHeartbeats 2000000
namespace DL
open PySem PySem.Spec PyProof.Rows L2
section
variable {W : Wd} {Z : Zn} {G G' F : Hp} {ρ : Ro} {M M' : Mu} {H : Hp} {te : TE} {ts : TS} {Q2 : DQ} {D2 : Ends2} {d e x y : DV} {ds es : List DV}
theorem wr_P {i j : Int} (v : Int) (hv : i ^ j.toNat = v) (hc : CPow i j) (h : Q2 (.i v) M) : WR Z (rI CPow fun i j => .int (i ^ j.toNat)) (.i i) (.i j) M Q2 := wr_I hc (by rw [hv]; exact h)
theorem wr_atTN {k : Nat} (h1 : ds[k]? = some e) (h : Q2 e M) : WR Z (rIx Z.W.K) (.tup ds) (.i (k : Nat)) M Q2 := wr_atT (atI_nat h1) h
theorem wr_atTM {α : Type} {f : α → DV} {xs : List α} {k : Nat} (hk : k < xs.length) (h : ∀ x, xs[k]? = some x → Q2 (f x) M) : WR Z (rIx Z.W.K) (.tup (xs.map f)) (.i (k : Nat)) M Q2 :=
  wr_atTN (by rw [List.getElem?_map, List.getElem?_eq_getElem hk]; rfl) (h _ (List.getElem?_eq_getElem hk))
/-- one of some, by an int -/
theorem atI_of {α : Type} {xs : List α} {k : Int} (h0 : 0 ≤ k) {e : α} (h : xs[k.toNat]? = some e) : atI xs k = some e := by
  obtain ⟨n, rfl⟩ := nat_of h0
  exact atI_nat h
theorem wr_pickI {k : Int} (l : LstOf M d ds) (h0 : 0 ≤ k) (hk : k < ds.length) (h : ∀ e, e ∈ ds → Q2 e M) : WR Z (rIx Z.W.K) d (.i k) M Q2 :=
  wr_atL l (atI_of h0 (List.getElem?_eq_getElem (by omega))) (h _ (List.getElem_mem _))
inductive OLe : Option MO → Option MO → Prop
  | rf {o : Option MO} : OLe o o
  | close {ds : List DV} {P : List DV → Prop} (h : P ds) : OLe (some (.lst ds)) (some (.pre P))
  | wk {P P' : List DV → Prop} (h : ∀ ds, P ds → P' ds) : OLe (some (.pre P)) (some (.pre P'))
  | drop {o : Option MO} : OLe o none
def MLe (M M' : Mu) : Prop := ∀ a, OLe (M a) (M' a)
theorem MLe.rfl {M : Mu} : MLe M M := fun _ => .rf
theorem MLe.upd {p : Addr} {a b : MO} (h : OLe (some a) (some b)) : MLe (updM M p a) (updM M p b) := fun q => by
  by_cases e : q = p
  · subst e; rw [updM_same, updM_same]; exact h
  · rw [updM_ne e, updM_ne e]; exact .rf
theorem Rep.weak (R : Rep W G M F H) (l : MLe M M') : Rep W G M' F H where
  ex := R.ex
  fr := R.fr
  fd := fun a o h => ⟨(R.fd a o h).1, by
    have h1 := (R.fd a o h).2
    have := l a
    rw [h1] at this
    generalize M' a = z at this
    cases this <;> rfl⟩
  mu := fun a o h => by
    have := l a
    rw [h] at this
    generalize q : M a = z at this
    cases this with
    | rf => exact R.mu a o q
    | close hp =>
      obtain ⟨h1, xs, h2, h3⟩ := R.mu a _ q
      exact ⟨h1, _, xs, hp, h2, h3⟩
    | wk hp =>
      obtain ⟨h1, ds, xs, h0, h2, h3⟩ := R.mu a _ q
      exact ⟨h1, ds, xs, hp ds h0, h2, h3⟩
theorem ws_weakR (h : WS Z ts { D2 with rt := fun d M1 => ∃ M2, MLe M1 M2 ∧ D2.rt d M2 } ρ M) : WS Z ts D2 ρ M := fun G σ H D s R E e =>
  h G σ H D s R E ⟨e.nx, fun d v G1 M1 H1 s1 R1 x ⟨M2, l, q⟩ => e.rt d v G1 M2 H1 s1 (R1.weak l) x q, e.bk, e.ct⟩
theorem Rep.opens {p : Addr} {P : List DV → Prop} (R : Rep W G M F H) (hm : M p = some (.pre P)) : ∃ ds, P ds ∧ Rep W G (updM M p (.lst ds)) F H := by
  obtain ⟨h1, ds, xs, h0, h2, h3⟩ := R.mu p _ hm
  refine ⟨ds, h0, R.ex, R.fr, fun a o h => ⟨(R.fd a o h).1, ?_⟩, fun a o h => ?_⟩
  · have e : a ≠ p := fun e => by rw [e] at h; rw [(R.fd p o h).2] at hm; cases hm
    rw [updM_ne e]; exact (R.fd a o h).2
  · by_cases e : a = p
    · subst e
      rw [updM_same] at h
      cases h
      exact ⟨h1, xs, h2, h3⟩
    · rw [updM_ne e] at h
      exact R.mu a o h
theorem ws_open {p : Addr} {P : List DV → Prop} (hm : M p = some (.pre P)) (h : ∀ ds, P ds → WS Z ts D2 ρ (updM M p (.lst ds))) : WS Z ts D2 ρ M := fun G σ H D s R E e => by
  obtain ⟨ds, h0, R'⟩ := R.opens hm
  exact h ds h0 G σ H D s R' E e
theorem updM_swap {p q : Addr} {x y z : MO} (h : q ≠ p) : updM (updM (updM M p x) q y) p z = updM (updM M p z) q y := by
  funext b
  unfold updM
  by_cases h1 : b = p
  · have h2 : b ≠ q := fun e => h (e.symm.trans h1)
    rw [if_pos h1, if_neg h2, if_pos h1]
  · rw [if_neg h1]
    by_cases h2 : b = q
    · rw [if_pos h2, if_pos h2]
    · rw [if_neg h2, if_neg h1, if_neg h2, if_neg h1]
theorem updM_comm {p q : Addr} {x y : MO} (h : q ≠ p) : updM (updM M p x) q y = updM (updM M q y) p x := by
  funext b
  unfold updM
  by_cases h1 : b = p
  · have h2 : b ≠ q := fun e => h (e.symm.trans h1)
    rw [if_neg h2, if_pos h1, if_pos h1]
  · rw [if_neg h1, if_neg h1]
theorem updM_none {p q : Addr} {x : MO} (h : updM M p x q = none) : q ≠ p ∧ M q = none := by
  have : q ≠ p := fun e => by rw [e, updM_same] at h; cases h
  exact ⟨this, by rw [updM_ne this] at h; exact h⟩
end
def WellP (n : Nat) : List DV → Prop := fun ds => ∃ A B C : Int, ds = [.i A, .i B, .i C] ∧ 0 ≤ B ∧ B < 2147483647 ∧ 0 ≤ C ∧ C ≤ (n : Int)
abbrev wl (n : Nat) : MO := .pre (WellP n)
theorem WellP.mono {n m : Nat} (l : n ≤ m) : OLe (some (wl n)) (some (wl m)) := .wk fun ds ⟨A, B, C, e, h2, h3, h4, h5⟩ => ⟨A, B, C, e, h2, h3, h4, by omega⟩
theorem wl_le {M : Mu} {p : Addr} {n m : Nat} (l : n ≤ m) : MLe (updM M p (wl n)) (updM M p (wl m)) := MLe.upd (WellP.mono l)
def sp_draw : Sp2 := fun ds M Q2 _ => ∃ (p : Addr) (top : Int) (n : Nat), ds = [.r p, .i top] ∧ M p = some (wl n) ∧ n ≤ 1000000000 ∧ 0 < top ∧ top < 1073741824 ∧ ∀ r : Nat, (r : Int) < top → Q2 (.i (r : Nat)) (updM M p (wl (n + 1)))
section
variable {M : Mu} {Q2 : DQ} {E2 : XK2} {p q q' : Addr} {n : Nat} {top : Int} {x y : MO}
theorem draw1 (hn : n ≤ 1000000000) (h0 : 0 < top) (h1 : top < 1073741824) (h : ∀ r : Nat, (r : Int) < top → Q2 (.i (r : Nat)) (updM M p (wl (n + 1)))) : sp_draw [.r p, .i top] (updM M p (wl n)) Q2 E2 :=
  ⟨p, top, n, rfl, updM_same, hn, h0, h1, by rw [updM_upd]; exact h⟩
theorem draw2 (hq : q ≠ p) (hn : n ≤ 1000000000) (h0 : 0 < top) (h1 : top < 1073741824) (h : ∀ r : Nat, (r : Int) < top → Q2 (.i (r : Nat)) (updM (updM M p (wl (n + 1))) q x)) : sp_draw [.r p, .i top] (updM (updM M p (wl n)) q x) Q2 E2 :=
  ⟨p, top, n, rfl, by rw [updM_ne (Ne.symm hq), updM_same], hn, h0, h1, by rw [updM_swap hq]; exact h⟩
theorem draw3 (hq : q ≠ p) (hq' : q' ≠ p) (hn : n ≤ 1000000000) (h0 : 0 < top) (h1 : top < 1073741824) (h : ∀ r : Nat, (r : Int) < top → Q2 (.i (r : Nat)) (updM (updM (updM M p (wl (n + 1))) q x) q' y)) : sp_draw [.r p, .i top] (updM (updM (updM M p (wl n)) q x) q' y) Q2 E2 :=
  ⟨p, top, n, rfl, by rw [updM_ne (Ne.symm hq'), updM_ne (Ne.symm hq), updM_same], hn, h0, h1, by
    have e : updM (updM (updM (updM M p (wl n)) q x) q' y) p (wl (n + 1)) = updM (updM (updM M p (wl (n + 1))) q x) q' y := by
      rw [← updM_comm hq', updM_swap hq]
    rw [e]
    exact h⟩
end
end DL
set_option Elab.async false
set_option linter.all false
set_option maxRecDepth 100000
set_option maxHeartbeats 2000000
namespace DL
open PySem PySem.Spec PyProof.Rows L2
/-- a list display that will be changed -/
def tLstM (t : TA) : TE := tLst t
theorem pe_lstM {X : Cx} {es : List Expr} {t : TA} {pos : Pos} (h : PA X es t) : PE X (.List es pos) (tLstM t) := pe_lst h
def rListQM (K : PySem.W.Frag) : List V → Hp → VK → Prop := rListQ K
theorem k_listM {X : Cx} {K : PySem.W.Frag} (e : X.K = K) : CallR X (.type "list") (rListQM K) := k_list e
theorem and_size {n : Nat} {Q : Prop} (h : Nat.ble n 1000000 = true) (q : Q) : n ≤ sizeLine ∧ Q := ⟨Nat.le_trans (Nat.le_of_ble_eq_true h) (by decide), q⟩
theorem le_size {n : Nat} (h : n ≤ 1000000) : n ≤ sizeLine := Nat.le_trans h (by decide)
theorem if_d {p : Prop} [Decidable p] {A B : Prop} (h1 : p → A) (h2 : ¬p → B) : if decide p = true then A else B := by
  by_cases h : p
  · rw [if_pos (decide_eq_true h)]; exact h1 h
  · rw [if_neg (by rw [decide_eq_false h]; exact Bool.false_ne_true)]; exact h2 h
section
variable {W : Wd} {Z : Zn} {G G' F : Hp} {ρ : Ro} {M M' : Mu} {H : Hp} {te ta tb : TE} {ts : TS} {tx : TA} {Q2 : DQ} {D2 : Ends2} {d e x y : DV} {ds es : List DV} {wi : TI} {g : TG} {tt : TT}
theorem we_lstMM (h : WA Z tx ρ M fun ds M1 => ds.length ≤ sizeLine ∧ ∀ p, M1 p = none → Q2 (.r p) (updM M1 p (.lst ds))) : WE Z (tLstM tx) ρ M Q2 := we_lstM h
theorem wm_app1 {q : Addr} (hz : ds.length < 1000000) (h : Q2 .n (updM M q (.lst (ds ++ [e])))) : WM Z rAppend (.r q) [e] (updM M q (.lst ds)) Q2 := wm_appendT updM_same hz (by rw [updM_upd]; exact h)
theorem ty_l1 {q : Addr} : TyOk W "list" (updM M q (.lst ds)) (.r q) := tyOk_lst (.inr ⟨q, rfl, updM_same⟩)
theorem ty_l0 : TyOk W "list" M (.lst ds) := tyOk_lst (.inl rfl)
theorem ls_l1 {q : Addr} : LstOf (updM M q (.lst ds)) (.r q) ds := .inr ⟨q, rfl, updM_same⟩
theorem we_call0 {sp2 : Sp2} {E : XK} {E2 : XK2} (hx : XcOk Z E2 E) (h : WA Z tx ρ M fun ds M1 => sp2 ds M1 Q2 E2) : WE Z (tCall (lift Z.W sp2) [] E tx) ρ M Q2 := we_call hx (h.imp fun ds M1 q => by rw [List.map_nil, List.append_nil]; exact q)
theorem we_meth0 {sp2 : Sp2} {E : XK} {E2 : XK2} {C : Addr} {m : Str} (hx : XcOk Z E2 E) (h : WE Z ta ρ M fun d M1 => (∃ ns ds, ObjOf M1 d C ns ds ∧ (ns.zip ds).lookup m = none) ∧ WA Z tx ρ M1 fun es M2 => sp2 (d :: es) M2 Q2 E2) : WE Z (tMeth C m (lift Z.W sp2) [] E ta tx) ρ M Q2 :=
  we_meth hx (h.imp fun d M1 q => ⟨q.1, q.2.imp fun ds M1 q => by rw [List.map_nil, List.append_nil]; exact q⟩)
theorem wc_isI {k : Kd} (hk : kdM M d = some k) (h : Q2 (.b (subK k .int)) M) : WC Z (rIsi Z.W.K) [d, .v (.ty "int")] M Q2 := wc_isK .int hk h
theorem wc_isS {k : Kd} (hk : kdM M d = some k) (h : Q2 (.b (subK k .str)) M) : WC Z (rIsi Z.W.K) [d, .v (.ty "str")] M Q2 := wc_isK .str hk h
theorem wc_isB {k : Kd} (hk : kdM M d = some k) (h : Q2 (.b (subK k .bool)) M) : WC Z (rIsi Z.W.K) [d, .v (.ty "bool")] M Q2 := wc_isK .bool hk h
theorem wc_isL {k : Kd} (hk : kdM M d = some k) (h : Q2 (.b (subK k .list)) M) : WC Z (rIsi Z.W.K) [d, .v (.ty "list")] M Q2 := wc_isK .list hk h
theorem wc_isT {k : Kd} (hk : kdM M d = some k) (h : Q2 (.b (subK k .tuple)) M) : WC Z (rIsi Z.W.K) [d, .v (.ty "tuple")] M Q2 := wc_isK .tuple hk h
theorem wc_lenL (h : Q2 (.i (ds.length : Nat)) M) : WC Z (orC (rLenQ Z.W.K) rLenT) [.lst ds] M Q2 := wc_lenQ (.inl (.inl rfl)) h
theorem wc_lenU (h : Q2 (.i (ds.length : Nat)) M) : WC Z (orC (rLenQ Z.W.K) rLenT) [.tup ds] M Q2 := wc_lenQ (.inr rfl) h
theorem wc_lenR {q : Addr} (h : Q2 (.i (ds.length : Nat)) (updM M q (.lst ds))) : WC Z (orC (rLenQ Z.W.K) rLenT) [.r q] (updM M q (.lst ds)) Q2 := wc_lenQ (.inl ls_l1) h
theorem wc_listL (h : Q2 (.lst ds) M) : WC Z (rListQ Z.W.K) [.lst ds] M Q2 := wc_listQ (.inl (.inl rfl)) h
theorem wc_listU (h : Q2 (.lst ds) M) : WC Z (rListQ Z.W.K) [.tup ds] M Q2 := wc_listQ (.inr rfl) h
theorem wc_listR {q : Addr} (h : Q2 (.lst ds) (updM M q (.lst ds))) : WC Z (rListQ Z.W.K) [.r q] (updM M q (.lst ds)) Q2 := wc_listQ (.inl ls_l1) h
theorem wc_listML (h : ∀ p, M p = none → Q2 (.r p) (updM M p (.lst ds))) : WC Z (rListQM Z.W.K) [.lst ds] M Q2 := wc_listQM (.inl (.inl rfl)) h
theorem wc_tupL (h : Q2 (.tup ds) M) : WC Z (rTupQ Z.W.K) [.lst ds] M Q2 := wc_tupQ (.inl (.inl rfl)) h
theorem wc_tupU (h : Q2 (.tup ds) M) : WC Z (rTupQ Z.W.K) [.tup ds] M Q2 := wc_tupQ (.inr rfl) h
theorem wc_tupR {q : Addr} (h : Q2 (.tup ds) (updM M q (.lst ds))) : WC Z (rTupQ Z.W.K) [.r q] (updM M q (.lst ds)) Q2 := wc_tupQ (.inl ls_l1) h
theorem wr_aL0 (h : Q2 e M) : WR Z (rIx Z.W.K) (.lst (e :: ds)) (.i 0) M Q2 := wr_atL (.inl rfl) (atI_nat (j := 0) rfl) h
theorem wr_aT0 (h : Q2 e M) : WR Z (rIx Z.W.K) (.tup (e :: ds)) (.i 0) M Q2 := wr_atT (atI_nat (j := 0) rfl) h
theorem wr_aR0 {q : Addr} (h : Q2 e (updM M q (.lst (e :: ds)))) : WR Z (rIx Z.W.K) (.r q) (.i 0) (updM M q (.lst (e :: ds))) Q2 := wr_atL ls_l1 (atI_nat (j := 0) rfl) h
theorem wr_aL1 {a0 : DV} (h : Q2 e M) : WR Z (rIx Z.W.K) (.lst (a0 :: e :: ds)) (.i 1) M Q2 := wr_atL (.inl rfl) (atI_nat (j := 1) rfl) h
theorem wr_aT1 {a0 : DV} (h : Q2 e M) : WR Z (rIx Z.W.K) (.tup (a0 :: e :: ds)) (.i 1) M Q2 := wr_atT (atI_nat (j := 1) rfl) h
theorem wr_aR1 {a0 : DV} {q : Addr} (h : Q2 e (updM M q (.lst (a0 :: e :: ds)))) : WR Z (rIx Z.W.K) (.r q) (.i 1) (updM M q (.lst (a0 :: e :: ds))) Q2 := wr_atL ls_l1 (atI_nat (j := 1) rfl) h
theorem wr_aL2 {a0 a1 : DV} (h : Q2 e M) : WR Z (rIx Z.W.K) (.lst (a0 :: a1 :: e :: ds)) (.i 2) M Q2 := wr_atL (.inl rfl) (atI_nat (j := 2) rfl) h
theorem wr_aT2 {a0 a1 : DV} (h : Q2 e M) : WR Z (rIx Z.W.K) (.tup (a0 :: a1 :: e :: ds)) (.i 2) M Q2 := wr_atT (atI_nat (j := 2) rfl) h
theorem wr_aR2 {a0 a1 : DV} {q : Addr} (h : Q2 e (updM M q (.lst (a0 :: a1 :: e :: ds)))) : WR Z (rIx Z.W.K) (.r q) (.i 2) (updM M q (.lst (a0 :: a1 :: e :: ds))) Q2 := wr_atL ls_l1 (atI_nat (j := 2) rfl) h
theorem wr_aL3 {a0 a1 a2 : DV} (h : Q2 e M) : WR Z (rIx Z.W.K) (.lst (a0 :: a1 :: a2 :: e :: ds)) (.i 3) M Q2 := wr_atL (.inl rfl) (atI_nat (j := 3) rfl) h
theorem wr_aT3 {a0 a1 a2 : DV} (h : Q2 e M) : WR Z (rIx Z.W.K) (.tup (a0 :: a1 :: a2 :: e :: ds)) (.i 3) M Q2 := wr_atT (atI_nat (j := 3) rfl) h
theorem wr_aR3 {a0 a1 a2 : DV} {q : Addr} (h : Q2 e (updM M q (.lst (a0 :: a1 :: a2 :: e :: ds)))) : WR Z (rIx Z.W.K) (.r q) (.i 3) (updM M q (.lst (a0 :: a1 :: a2 :: e :: ds))) Q2 := wr_atL ls_l1 (atI_nat (j := 3) rfl) h
theorem wr_aL4 {a0 a1 a2 a3 : DV} (h : Q2 e M) : WR Z (rIx Z.W.K) (.lst (a0 :: a1 :: a2 :: a3 :: e :: ds)) (.i 4) M Q2 := wr_atL (.inl rfl) (atI_nat (j := 4) rfl) h
theorem wr_aT4 {a0 a1 a2 a3 : DV} (h : Q2 e M) : WR Z (rIx Z.W.K) (.tup (a0 :: a1 :: a2 :: a3 :: e :: ds)) (.i 4) M Q2 := wr_atT (atI_nat (j := 4) rfl) h
theorem wr_aR4 {a0 a1 a2 a3 : DV} {q : Addr} (h : Q2 e (updM M q (.lst (a0 :: a1 :: a2 :: a3 :: e :: ds)))) : WR Z (rIx Z.W.K) (.r q) (.i 4) (updM M q (.lst (a0 :: a1 :: a2 :: a3 :: e :: ds))) Q2 := wr_atL ls_l1 (atI_nat (j := 4) rfl) h
theorem wr_aL5 {a0 a1 a2 a3 a4 : DV} (h : Q2 e M) : WR Z (rIx Z.W.K) (.lst (a0 :: a1 :: a2 :: a3 :: a4 :: e :: ds)) (.i 5) M Q2 := wr_atL (.inl rfl) (atI_nat (j := 5) rfl) h
theorem wr_aT5 {a0 a1 a2 a3 a4 : DV} (h : Q2 e M) : WR Z (rIx Z.W.K) (.tup (a0 :: a1 :: a2 :: a3 :: a4 :: e :: ds)) (.i 5) M Q2 := wr_atT (atI_nat (j := 5) rfl) h
theorem wr_aR5 {a0 a1 a2 a3 a4 : DV} {q : Addr} (h : Q2 e (updM M q (.lst (a0 :: a1 :: a2 :: a3 :: a4 :: e :: ds)))) : WR Z (rIx Z.W.K) (.r q) (.i 5) (updM M q (.lst (a0 :: a1 :: a2 :: a3 :: a4 :: e :: ds))) Q2 := wr_atL ls_l1 (atI_nat (j := 5) rfl) h
theorem if_ttN {p : Prop} [Decidable p] {A B : Prop} (h : ¬p) (q : A) : if (!decide p) = true then A else B := by rw [decide_eq_false h]; exact q
theorem if_ffN {p : Prop} [Decidable p] {A B : Prop} (h : p) (q : B) : if (!decide p) = true then A else B := by rw [decide_eq_true h]; exact q
theorem if_ttD {p : Prop} [Decidable p] {A B : Prop} (h : p) (q : A) : if decide p = true then A else B := by rw [decide_eq_true h]; exact q
theorem if_ffD {p : Prop} [Decidable p] {A B : Prop} (h : ¬p) (q : B) : if decide p = true then A else B := by rw [decide_eq_false h]; exact q
theorem wr_M {C : Int → Int → Prop} {g : Int → Int → V} {i j : Int} (hc : C i j) (h : Q2 (.v (g i j)) M) : WR Z (rI C g) (.i i) (.i j) M Q2 := wr_I hc h
end
mutual
def DV.pln : DV → Bool
  | .v .non => true
  | .v (.int _) => true
  | .v (.str z) => PyData.strOk z
  | .lst ds => plnL ds
  | .tup ds => plnL ds
  | _ => false
def plnL : List DV → Bool
  | [] => true
  | d :: ds => d.pln && plnL ds
end
mutual
theorem pln_good : ∀ d : DV, d.pln = true → d.good = true
  | .v x, h => by cases x <;> simp_all [DV.pln, DV.good]
  | .lst ds, h => by simp only [DV.good]; exact plnL_good ds (by simpa [DV.pln] using h)
  | .tup ds, h => by simp only [DV.good]; exact plnL_good ds (by simpa [DV.pln] using h)
  | .obj _ _ _, h => by simp [DV.pln] at h
  | .dk _ _, h => by simp [DV.pln] at h
  | .dl _ _, h => by simp [DV.pln] at h
  | .fn _ _, h => by simp [DV.pln] at h
theorem plnL_good : ∀ ds : List DV, plnL ds = true → goodL ds = true
  | [], _ => rfl
  | d :: ds, h => by
    simp only [plnL, Bool.and_eq_true] at h
    simp only [goodL, Bool.and_eq_true]
    exact ⟨pln_good d h.1, plnL_good ds h.2⟩
end
mutual
theorem pln_eqv : ∀ (d e : DV) (p q : PyData), d.pln = true → e.pln = true → d.py = some p → e.py = some q → (PyData.eqv p q = true ↔ d = e)
  | .v x, e, p, q, h1, h2, h3, h4 => by
    cases x <;> simp [DV.pln] at h1 <;> simp [DV.py] at h3 <;> subst h3
    all_goals
      cases e with
      | v y => cases y <;> simp [DV.pln] at h2 <;> simp [DV.py] at h4 <;> subst h4 <;> simp [PyData.eqv]
      | lst ds =>
        simp only [DV.py, Option.map_eq_some_iff] at h4
        obtain ⟨ps, _, rfl⟩ := h4
        simp [PyData.eqv]
      | tup ds =>
        simp only [DV.py, Option.map_eq_some_iff] at h4
        obtain ⟨ps, _, rfl⟩ := h4
        simp [PyData.eqv]
      | obj _ _ _ => simp [DV.pln] at h2
      | dk _ _ => simp [DV.pln] at h2
      | dl _ _ => simp [DV.pln] at h2
      | fn _ _ => simp [DV.pln] at h2
  | .lst ds, e, p, q, h1, h2, h3, h4 => by
    simp only [DV.py, Option.map_eq_some_iff] at h3
    obtain ⟨ps, h3, rfl⟩ := h3
    cases e with
    | v y => cases y <;> simp [DV.pln] at h2 <;> simp [DV.py] at h4 <;> subst h4 <;> simp [PyData.eqv]
    | lst es =>
      simp only [DV.py, Option.map_eq_some_iff] at h4
      obtain ⟨qs, h4, rfl⟩ := h4
      simp only [PyData.eqv, DV.lst.injEq]
      exact plnL_eqv ds es ps qs (by simpa [DV.pln] using h1) (by simpa [DV.pln] using h2) h3 h4
    | tup es =>
      simp only [DV.py, Option.map_eq_some_iff] at h4
      obtain ⟨qs, h4, rfl⟩ := h4
      simp [PyData.eqv]
    | obj _ _ _ => simp [DV.pln] at h2
    | dk _ _ => simp [DV.pln] at h2
    | dl _ _ => simp [DV.pln] at h2
    | fn _ _ => simp [DV.pln] at h2
  | .tup ds, e, p, q, h1, h2, h3, h4 => by
    simp only [DV.py, Option.map_eq_some_iff] at h3
    obtain ⟨ps, h3, rfl⟩ := h3
    cases e with
    | v y => cases y <;> simp [DV.pln] at h2 <;> simp [DV.py] at h4 <;> subst h4 <;> simp [PyData.eqv]
    | tup es =>
      simp only [DV.py, Option.map_eq_some_iff] at h4
      obtain ⟨qs, h4, rfl⟩ := h4
      simp only [PyData.eqv, DV.tup.injEq]
      exact plnL_eqv ds es ps qs (by simpa [DV.pln] using h1) (by simpa [DV.pln] using h2) h3 h4
    | lst es =>
      simp only [DV.py, Option.map_eq_some_iff] at h4
      obtain ⟨qs, h4, rfl⟩ := h4
      simp [PyData.eqv]
    | obj _ _ _ => simp [DV.pln] at h2
    | dk _ _ => simp [DV.pln] at h2
    | dl _ _ => simp [DV.pln] at h2
    | fn _ _ => simp [DV.pln] at h2
  | .obj _ _ _, e, p, q, h1, _, _, _ => by simp [DV.pln] at h1
  | .dk _ _, e, p, q, h1, _, _, _ => by simp [DV.pln] at h1
  | .dl _ _, e, p, q, h1, _, _, _ => by simp [DV.pln] at h1
  | .fn _ _, e, p, q, h1, _, _, _ => by simp [DV.pln] at h1
theorem plnL_eqv : ∀ (ds es : List DV) (ps qs : List PyData), plnL ds = true → plnL es = true → pyL ds = some ps → pyL es = some qs → (PyData.eqvAll ps qs = true ↔ ds = es)
  | [], [], ps, qs, h1, h2, h3, h4 => by
    simp [pyL] at h3 h4
    subst h3 h4
    simp [PyData.eqvAll]
  | [], e :: es, ps, qs, h1, h2, h3, h4 => by
    obtain ⟨q, qs', _, _, rfl⟩ := pyL_cons h4
    simp [pyL] at h3
    subst h3
    simp [PyData.eqvAll]
  | d :: ds, [], ps, qs, h1, h2, h3, h4 => by
    obtain ⟨p, ps', _, _, rfl⟩ := pyL_cons h3
    simp [pyL] at h4
    subst h4
    simp [PyData.eqvAll]
  | d :: ds, e :: es, ps, qs, h1, h2, h3, h4 => by
    obtain ⟨p, ps', g1, g2, rfl⟩ := pyL_cons h3
    obtain ⟨q, qs', g3, g4, rfl⟩ := pyL_cons h4
    simp only [plnL, Bool.and_eq_true] at h1 h2
    have a := pln_eqv d e p q h1.1 h2.1 g1 g3
    have b := plnL_eqv ds es ps' qs' h1.2 h2.2 g2 g4
    simp only [PyData.eqvAll, Bool.and_eq_true, List.cons.injEq, a, b]
end
/-- data at hand: frozen, or a list that may change -/
def Hold (M : Mu) (x d : DV) : Prop := x = d ∨ ∃ a ds, x = .r a ∧ M a = some (.lst ds) ∧ d = .lst ds
theorem Hold.py {M : Mu} {x d : DV} {p : PyData} (h : Hold M x d) (e : d.py = some p) : PyOf M x p := by
  rcases h with rfl | ⟨a, ds, rfl, hm, rfl⟩
  · exact .inl e
  · simp only [DV.py, Option.map_eq_some_iff] at e
    obtain ⟨ps, e, rfl⟩ := e
    exact .inr ⟨a, ds, ps, rfl, hm, e, rfl⟩
section
variable {Z : Zn} {M : Mu} {Q2 : DQ} {x y d e : DV} {ds es : List DV}
theorem wr_eqB (hx : Hold M x d) (hy : Hold M y e) (h1 : d.pln = true) (h2 : e.pln = true) (h3 : d.dep ≤ 64) (h4 : e.dep ≤ 64) (h : ∀ b : Bool, (b = true ↔ d = e) → Q2 (.b b) M) : WR Z (rEqA Z.W.K) x y M Q2 := by
  obtain ⟨p, p1, p2, p3⟩ := good_py d (pln_good d h1)
  obtain ⟨q, q1, q2, q3⟩ := good_py e (pln_good e h2)
  exact wr_eqP (hx.py p1) (hy.py q1) (shaped_of p2 (by omega)) (shaped_of q2 (by omega)) (h _ (pln_eqv d e p q h1 h2 p1 q1))
theorem anyEqv : ∀ {ds : List DV} {e : DV} {ps : List PyData} {q : PyData}, plnL ds = true → e.pln = true → pyL ds = some ps → e.py = some q → ((ps.any fun z => PyData.eqv z q) = true ↔ e ∈ ds)
  | [], e, ps, q, h1, h2, h3, h4 => by
    simp [pyL] at h3
    subst h3
    simp
  | d :: ds, e, ps, q, h1, h2, h3, h4 => by
    obtain ⟨p, ps', g1, g2, rfl⟩ := pyL_cons h3
    simp only [plnL, Bool.and_eq_true] at h1
    have a := pln_eqv d e p q h1.1 h2 g1 h4
    have b := anyEqv h1.2 h2 g2 h4
    simp only [List.any_cons, Bool.or_eq_true, a, b, List.mem_cons]
    exact ⟨fun h => h.imp Eq.symm id, fun h => h.imp Eq.symm id⟩
theorem wr_niB (hx : Hold M x d) (hy : LstOf M y ds) (h1 : d.pln = true) (h2 : plnL ds = true) (h3 : d.dep ≤ 64) (h4 : depL ds ≤ 63) (h : ∀ b : Bool, (b = true ↔ d ∉ ds) → Q2 (.b b) M) : WR Z (rNiA Z.W.K) x y M Q2 := by
  obtain ⟨p, p1, p2, p3⟩ := good_py d (pln_good d h1)
  obtain ⟨qs, q1, q2, q3⟩ := goodL_py ds (plnL_good ds h2)
  refine wr_niDA (hx.py p1) (pyOf_lst hy q1) (shaped_of p2 (by omega)) (shaped_of (by simpa [PyData.canLay0] using q2) (by simp [PyData.depth, q3]; omega)) (h _ ?_)
  have := anyEqv h2 h1 q1 p1
  cases z : (qs.any fun z => PyData.eqv z p) <;> simp_all
end
theorem plnL_int : ∀ {r : List Int}, plnL (r.map DV.i) = true
  | [] => rfl
  | r :: rs => by simp [plnL, DV.pln, plnL_int (r := rs)]
theorem plnL_rows : ∀ {rows : List (List Int)}, plnL (rows.map rowD) = true
  | [] => rfl
  | r :: rs => by simp [plnL, DV.pln, plnL_rows (rows := rs), plnL_int]
theorem plnL_strs : ∀ {zs : List Str}, (∀ z ∈ zs, PyData.strOk z = true) → plnL (zs.map DV.s) = true
  | [], _ => rfl
  | z :: zs, h => by
    have := plnL_strs (zs := zs) fun y hy => h y (List.mem_cons_of_mem _ hy)
    simp [plnL, DV.pln, h z (by simp), this]
end DL
set_option Elab.async false
set_option linter.all false
set_option maxRecDepth 100000
set_option maxHeartbeats 2000000
namespace DL
open PySem PySem.Spec PyProof.Rows L2
section
variable {W : Wd} {Z : Zn} {G G' F : Hp} {ρ : Ro} {M M' : Mu} {H : Hp} {te ta tb : TE} {ts : TS} {tx : TA} {Q2 : DQ} {D2 : Ends2} {d e x y : DV} {ds es : List DV} {wi : TI} {g : TG} {tt : TT}
theorem wg_weak {P : Ro → Mu → Prop} (l : MLe M M') (h : WG Z g d ρ M' P) : WG Z g d ρ M P := fun G σ H v Q s R E x n => h G σ H v Q s (R.weak l) E x n
theorem wi_rangeI {R2 : List DV → Mu → Prop} (h : WA Z tx ρ M fun ds M1 => ∃ j : Int, ds = [.i j] ∧ -(2 ^ 62) ≤ j ∧ j < 2 ^ 62 ∧ R2 (rangeD 0 j.toNat) M1) : WI Z (iRng1 tx) ρ M R2 := wi_range1 h
theorem enumD_get {i : Nat} (h : (enumD ds)[i]? = some d) : ∃ e, ds[i]? = some e ∧ d = .tup [.i (i : Nat), e] := by
  unfold enumD at h
  rw [List.getElem?_mapIdx] at h
  cases q : ds[i]? with
  | none => rw [q] at h; cases h
  | some y => rw [q] at h; cases h; exact ⟨y, rfl, rfl⟩
theorem enumD_len : (enumD ds).length = ds.length := by simp [enumD]
/-- a comprehension that draws: S n the store after n draws at most -/
theorem comp_S {α : Type} {k : List DV → Mu → Prop} (S : Nat → Mu) (hS : ∀ {a b : Nat}, a ≤ b → MLe (S a) (S b)) (f : α → DV) (P : Nat → α → Prop) (c : Nat) {n : Nat} {items : List DV} (hl : items.length ≤ 1000000)
    (hb : ∀ i d F, items[i]? = some d → i < items.length → WG (Z.fr F) g d ρ (S (n + c * i)) fun ρ2 M2 => WT (Z.fr F) tt ρ2 M2 fun b M3 => b = true ∧ WE (Z.fr F) te ρ2 M3 fun y M4 => ∃ x m, y = f x ∧ P i x ∧ m ≤ n + c * i + c ∧ M4 = S m)
    (hk : ∀ (xs : List α) (m : Nat), xs.length = items.length → (∀ i x, xs[i]? = some x → P i x) → m ≤ n + c * items.length → k (xs.map f) (S m)) : Comp Z g tt te ρ k items [] (S n) :=
  comp_word (fun j acc M' => ∃ (xs : List α) (m : Nat), acc = xs.map f ∧ xs.length = j ∧ (∀ i x, xs[i]? = some x → P i x) ∧ m ≤ n + c * j ∧ M' = S m) items 0 [] (S n) (by simpa using le_size hl) ⟨[], n, rfl, rfl, by simp, by omega, rfl⟩
    (fun i d acc M' F hd ⟨xs, m, e1, e2, e3, e4, e5⟩ => by
      subst e1 e5
      rw [Nat.zero_add] at e2 e4 ⊢
      have hi := (List.getElem?_eq_some_iff.mp hd).1
      refine (wg_weak (hS e4) (hb i d F hd hi)).imp fun ρ2 M2 q => q.imp fun b M3 ⟨hb, q2⟩ => ⟨hb, q2.imp fun y M4 ⟨x, m', h1, h2, h3, h4⟩ => ?_⟩
      subst h1 h4
      refine ⟨xs ++ [x], m', by simp, by simp [e2], fun j z hz => ?_, by rw [Nat.mul_add]; omega, rfl⟩
      by_cases hj : j < xs.length
      · rw [List.getElem?_append_left hj] at hz
        exact e3 j z hz
      · rw [List.getElem?_append_right (by omega)] at hz
        have : j = xs.length := by
          have := (List.getElem?_eq_some_iff.mp hz).1
          simp at this
          omega
        subst this
        simp at hz
        rw [← hz, e2]
        exact h2)
    fun acc M' ⟨xs, m, e1, e2, e3, e4, e5⟩ => by
      rw [Nat.zero_add] at e2 e4
      subst e1 e5
      exact hk xs m e2 e3 e4
/-- .. over range(j) -/
theorem comp_SR {α : Type} {k : List DV → Mu → Prop} {j : Nat} (S : Nat → Mu) (hS : ∀ {a b : Nat}, a ≤ b → MLe (S a) (S b)) (f : α → DV) (P : Nat → α → Prop) (c : Nat) {n : Nat} (hl : j ≤ 1000000)
    (hb : ∀ i F, i < j → WG (Z.fr F) g (.i (i : Nat)) ρ (S (n + c * i)) fun ρ2 M2 => WT (Z.fr F) tt ρ2 M2 fun b M3 => b = true ∧ WE (Z.fr F) te ρ2 M3 fun y M4 => ∃ x m, y = f x ∧ P i x ∧ m ≤ n + c * i + c ∧ M4 = S m)
    (hk : ∀ (xs : List α) (m : Nat), xs.length = j → (∀ i x, xs[i]? = some x → P i x) → m ≤ n + c * j → k (xs.map f) (S m)) : Comp Z g tt te ρ k (rangeD 0 j) [] (S n) :=
  comp_S S hS f P c (by rw [rangeD_len]; exact hl) (fun i d F hd hi => by
    obtain ⟨h1, rfl⟩ := rangeD_get hd
    exact hb i F h1) fun xs m h1 h2 h3 => hk xs m (by rw [h1, rangeD_len]) h2 (by rw [rangeD_len] at h3; exact h3)
/-- one well -/
theorem comp_W {α : Type} {k : List DV → Mu → Prop} {j : Nat} {p : Addr} (f : α → DV) (P : Nat → α → Prop) (c : Nat) {n : Nat} (hl : j ≤ 1000000)
    (hb : ∀ i F, i < j → WG (Z.fr F) g (.i (i : Nat)) ρ (updM M p (wl (n + c * i))) fun ρ2 M2 => WT (Z.fr F) tt ρ2 M2 fun b M3 => b = true ∧ WE (Z.fr F) te ρ2 M3 fun y M4 => ∃ x m, y = f x ∧ P i x ∧ m ≤ n + c * i + c ∧ M4 = updM M p (wl m))
    (hk : ∀ (xs : List α) (m : Nat), xs.length = j → (∀ i x, xs[i]? = some x → P i x) → m ≤ n + c * j → k (xs.map f) (updM M p (wl m))) : Comp Z g tt te ρ k (rangeD 0 j) [] (updM M p (wl n)) :=
  comp_SR (fun n => updM M p (wl n)) wl_le f P c hl hb hk
theorem wipe2_some : ∀ (is : List Nat) (i : Nat) d, (wipe2 ρ is)[i]? = some (some d) → ρ[i]? = some (some d)
  | [], i, d, h => h
  | j :: is, i, d, h => by
    unfold wipe2 at h
    by_cases q : j = i
    · subst q
      rw [List.getElem?_set] at h
      split at h
      · split at h <;> cases h
      · exact wipe2_some is _ d h
    · rw [List.getElem?_set_ne q] at h
      exact wipe2_some is i d h
theorem EnvOk.wipeL {σ : L2.St} (is : List Nat) (E : EnvOk W G ρ σ) : EnvOk W G (wipe2 ρ is) σ := E.weak (wipe2_length is) (wipe2_some is)
theorem ws_env (is : List Nat) (h : WS Z ts D2 (wipe2 ρ is) M) : WS Z ts D2 ρ M := fun G σ H D s R E e => h G σ H D s R (E.wipeL is) e
theorem wg_env {P : Ro → Mu → Prop} (is : List Nat) (h : WG Z g d (wipe2 ρ is) M P) : WG Z g d ρ M P := fun G σ H v Q s R E x n => h G σ H v Q s R (E.wipeL is) x n
/-- a for over items that draws and keeps all slots but some; b what is changed beside -/
theorem loop_S {β : Type} {tr : TS} (is : List Nat) (S : Nat → β → Mu) (I : Nat → β → Prop) (c : Nat) {n : Nat} {b0 : β} {items : List DV} (hI : I 0 b0)
    (hs : ∀ i d m b, items[i]? = some d → m ≤ n + c * i → I i b → WG Z g d (wipe2 ρ is) (S m b) fun ρ1 M1 => WS Z ts { nx := fun ρ2 M2 => wipe2 ρ2 is = wipe2 ρ is ∧ ∃ m' b', m' ≤ m + c ∧ I (i + 1) b' ∧ M2 = S m' b', rt := D2.rt, bk := fun ρ2 M2 => WS Z tr D2 ρ2 M2, ct := fun ρ2 M2 => wipe2 ρ2 is = wipe2 ρ is ∧ ∃ m' b', m' ≤ m + c ∧ I (i + 1) b' ∧ M2 = S m' b' } ρ1 M1)
    (hk : ∀ m b, m ≤ n + c * items.length → I items.length b → WS Z tr D2 (wipe2 ρ is) (S m b)) : Loop Z g ts { nx := fun ρ' M' => WS Z tr D2 ρ' M', rt := D2.rt, bk := D2.bk, ct := D2.ct } items ρ (S n b0) := by
  refine loop_word (fun j ρ2 M2 => wipe2 ρ2 is = wipe2 ρ is ∧ ∃ m b, m ≤ n + c * j ∧ I j b ∧ M2 = S m b) items 0 ρ _ ⟨rfl, n, b0, by omega, hI, rfl⟩ (fun i d ρ2 M2 hi h => ?_) fun ρ2 M2 h => ?_
  · rw [Nat.zero_add] at h ⊢
    obtain ⟨h1, m, b, h2, h3, rfl⟩ := h
    refine wg_env is ?_
    rw [h1]
    have key : ∀ ρ2 M2, (wipe2 ρ2 is = wipe2 ρ is ∧ ∃ m' b', m' ≤ m + c ∧ I (i + 1) b' ∧ M2 = S m' b') → (wipe2 ρ2 is = wipe2 ρ is ∧ ∃ m b, m ≤ n + c * (i + 1) ∧ I (i + 1) b ∧ M2 = S m b) :=
      fun ρ2 M2 ⟨g1, m', b', g2, g3, g4⟩ => ⟨g1, m', b', by rw [Nat.mul_add]; omega, g3, g4⟩
    exact (hs i d m b hi h2 h3).imp fun ρ1 M1 q => q.imp key (fun _ _ h => h) (fun _ _ h => h) key
  · rw [Nat.zero_add] at h
    obtain ⟨h1, m, b, h2, h3, rfl⟩ := h
    refine ws_env is ?_
    rw [h1]
    exact hk m b h2 h3
/-- .. that draws nothing -/
theorem loop_K {β : Type} {tr : TS} (is : List Nat) (S : β → Mu) (I : Nat → β → Prop) {b0 : β} {items : List DV} (hI : I 0 b0)
    (hs : ∀ i d b, items[i]? = some d → I i b → WG Z g d (wipe2 ρ is) (S b) fun ρ1 M1 => WS Z ts { nx := fun ρ2 M2 => wipe2 ρ2 is = wipe2 ρ is ∧ ∃ b', I (i + 1) b' ∧ M2 = S b', rt := D2.rt, bk := fun ρ2 M2 => WS Z tr D2 ρ2 M2, ct := fun ρ2 M2 => wipe2 ρ2 is = wipe2 ρ is ∧ ∃ b', I (i + 1) b' ∧ M2 = S b' } ρ1 M1)
    (hk : ∀ b, I items.length b → WS Z tr D2 (wipe2 ρ is) (S b)) : Loop Z g ts { nx := fun ρ' M' => WS Z tr D2 ρ' M', rt := D2.rt, bk := D2.bk, ct := D2.ct } items ρ (S b0) :=
  loop_S is (fun _ b => S b) I 0 (n := 0) hI (fun i d m b hi hm h => by
    have key : ∀ ρ2 M2, (wipe2 ρ2 is = wipe2 ρ is ∧ ∃ b', I (i + 1) b' ∧ M2 = S b') → (wipe2 ρ2 is = wipe2 ρ is ∧ ∃ m' b', m' ≤ m + 0 ∧ I (i + 1) b' ∧ M2 = S b') :=
      fun ρ2 M2 ⟨g1, b', g3, g4⟩ => ⟨g1, 0, b', by omega, g3, g4⟩
    exact (hs i d b hi h).imp fun ρ1 M1 q => q.imp key (fun _ _ h => h) (fun _ _ h => h) key) fun m b _ h => hk b h
end
end DL
set_option Elab.async false
set_option linter.all false
set_option maxRecDepth 100000
set_option maxHeartbeats 2000000
namespace DL
open PySem PySem.Spec PyProof.Rows L2
section
variable {Z : Zn} {ρ ρ' : Ro} {M : Mu} {te : TE} {ts : TS} {tx : TA} {tt : TT} {Q2 : DQ} {D2 : Ends2} {d : DV} {g : TG} {i : Nat} {x : Option DV} {is : List Nat} {y : Option DV} {l : Ro}
theorem ws_nrm (h : ρ.set i x = y :: l) (k : WS Z ts D2 (y :: l) M) : WS Z ts D2 (ρ.set i x) M := h ▸ k
theorem we_nrm (h : ρ.set i x = y :: l) (k : WE Z te (y :: l) M Q2) : WE Z te (ρ.set i x) M Q2 := h ▸ k
theorem wt_nrm {P : Bool → Mu → Prop} (h : ρ.set i x = y :: l) (k : WT Z tt (y :: l) M P) : WT Z tt (ρ.set i x) M P := h ▸ k
theorem wg_nrm {P : Ro → Mu → Prop} (h : ρ.set i x = y :: l) (k : WG Z g d (y :: l) M P) : WG Z g d (ρ.set i x) M P := h ▸ k
theorem wgs_nrm {gs : TGs} {ds : List DV} {P : Ro → Mu → Prop} (h : ρ.set i x = y :: l) (k : WGs Z gs ds (y :: l) M P) : WGs Z gs ds (ρ.set i x) M P := h ▸ k
theorem ws_nrmW (h : wipe2 ρ is = y :: l) (k : WS Z ts D2 (y :: l) M) : WS Z ts D2 (wipe2 ρ is) M := h ▸ k
theorem wg_nrmW {P : Ro → Mu → Prop} (h : wipe2 ρ is = y :: l) (k : WG Z g d (y :: l) M P) : WG Z g d (wipe2 ρ is) M P := h ▸ k
theorem comp_nrm {k : List DV → Mu → Prop} {items acc : List DV} (h : wipe2 ρ is = y :: l) (q : Comp Z g tt te (y :: l) k items acc M) : Comp Z g tt te (wipe2 ρ is) k items acc M := h ▸ q
theorem ws_start {N : List Str} {ds : List DV} (h : start2 N ds = ρ') (k : WS Z ts D2 ρ' M) : WS Z ts D2 (start2 N ds) M := h ▸ k
theorem wu_U {g : Int → V} {i : Int} (h : Q2 (.v (g i)) M) : WU Z (rU g) (.i i) M Q2 := fun G H vx Q s R dx r => ⟨i, dat_v.mp dx, r _ _ G M H (Same.refl G) R dat_v' h⟩
theorem wr_addLL {ds es : List DV} (h : Nat.ble (ds.length + es.length) 1000000 = true) (q : Q2 (.lst (ds ++ es)) M) : WR Z (rAddA Z.W.K) (.lst ds) (.lst es) M Q2 := wr_addL (.inl rfl) (.inl rfl) (le_size (Nat.le_of_ble_eq_true h)) q
theorem wr_addLn {ds es : List DV} (h : ds.length + es.length ≤ 1000000) (q : Q2 (.lst (ds ++ es)) M) : WR Z (rAddA Z.W.K) (.lst ds) (.lst es) M Q2 := wr_addL (.inl rfl) (.inl rfl) (le_size h) q
def Ask (p : Prop) : Prop := p
theorem ask_of {p : Prop} (h : p) : Ask p := h
def Obj (M : Mu) (d : DV) (C : Addr) (m : Str) : Prop := ∃ ns ds, ObjOf M d C ns ds ∧ (ns.zip ds).lookup m = none
theorem obj_of {C : Addr} {m : Str} {ns : List Str} {ds : List DV} {Q : Prop} (h : ObjOf M d C ns ds) (k : (ns.zip ds).lookup m = none) (q : Q) : Obj M d C m ∧ Q := ⟨⟨ns, ds, h, k⟩, q⟩
end
end DL
set_option Elab.async false
set_option linter.all false
set_option maxRecDepth 100000
set_option maxHeartbeats 2000000
namespace DL
open PySem PySem.Spec PyProof.Rows L2
section
variable {Z : Zn} {ρ ρ' : Ro} {M : Mu} {Q2 : DQ}
theorem cut_len {α : Type} (xs : List α) (n : Nat) : (cutD xs none (some (n : Int))).length ≤ n := by
  unfold cutD
  have : HT.sIx xs.length 0 none = 0 := rfl
  rw [this, List.drop_zero, List.length_take]
  have : HT.sIx xs.length xs.length (some (n : Int)) ≤ n := by
    unfold HT.sIx
    simp only
    split <;> omega
  omega
theorem cutV_map (ns : List Int) (lo hi : Option Int) : (cutV (ns.map V.int) lo hi).map DV.v = (cutD ns lo hi).map DV.i := by
  unfold cutV cutD
  rw [List.length_map, ← List.map_drop, ← List.map_take, List.map_map]
  rfl
theorem wl_scr {a : Addr} {ns : List Int} (n : Nat) (hS : SqL Z.W.K Z.G a (ns.map V.int)) (h : ∀ cs : List Int, cs.length ≤ n → Q2 (.lst (cs.map DV.i)) M) : WL Z (rSlA Z.W.K) (.r a) none (some (n : Int)) M Q2 :=
  wl_A0 hS (by rw [cutV_map]; exact h _ (cut_len ns n))
end
end DL
set_option Elab.async false
set_option linter.all false
set_option maxRecDepth 100000
set_option maxHeartbeats 2000000
namespace DL
open PySem PySem.Spec PyProof.Rows L2
structure ItOkM (W : Wd) (G : Hp) (Kp : Mu → Prop) (J : It) (items : List DV) : Prop where
  go : ∀ i G' F M H', Same G G' → Rep W G' M F H' → Kp M → i < items.length → J.go i H'
  stop : ∀ i G' F M H', Same G G' → Rep W G' M F H' → Kp M → items.length ≤ i → J.stop i H'
  yld : ∀ i d G' F M H' x H'', Same G G' → Rep W G' M F H' → Kp M → items[i]? = some d → J.yld i H' x H'' → ∃ G'', Same G' G'' ∧ Rep W G'' M F H'' ∧ Dat W G'' d x
def WIM (Z : Zn) (wi : TI) (ρ : Ro) (M : Mu) (R2 : List DV → (Mu → Prop) → Mu → Prop) : Prop :=
  ∀ G σ H R, Same Z.G G → Rep Z.W G M Z.F H → EnvOk Z.W G ρ σ → (∀ items Kp J G' M' H', Same G G' → Rep Z.W G' M' Z.F H' → ItOkM Z.W G' Kp J items → R2 items Kp M' → R J H') → wi σ H R
def LoopM (Z : Zn) (g : TG) (tb : TS) (D2 : Ends2) (Kp : Mu → Prop) : List DV → Ro → Mu → Prop
  | [], ρ, M => Kp M ∧ D2.nx ρ M
  | d :: ds, ρ, M => Kp M ∧ WG Z g d ρ M fun ρ1 M1 => WS Z tb { D2 with nx := LoopM Z g tb D2 Kp ds, ct := LoopM Z g tb D2 Kp ds, bk := D2.nx } ρ1 M1
def CompM (Z : Zn) (g : TG) (tt : TT) (te : TE) (ρ : Ro) (k : List DV → Mu → Prop) (Kp : Mu → Prop) : List DV → List DV → Mu → Prop
  | [], acc, M => Kp M ∧ k acc M
  | d :: ds, acc, M => Kp M ∧ acc.length < sizeLine ∧ ∀ F, WG (Z.fr F) g d ρ M fun ρ2 M2 => WT (Z.fr F) tt ρ2 M2 fun b M3 =>
      if b = true then WE (Z.fr F) te ρ2 M3 fun y M4 => CompM Z g tt te ρ k Kp ds (acc ++ [y]) M4 else CompM Z g tt te ρ k Kp ds acc M3
section
variable {W : Wd} {Z : Zn} {G G' F : Hp} {ρ : Ro} {σ : L2.St} {M : Mu} {H : Hp} {te ta tb tc : TE} {tt tu : TT} {ts tr : TS} {tx : TA} {Q2 Q2' : DQ} {D2 : Ends2} {d e x y : DV} {ds es : List DV} {v : V} {wi : TI} {g : TG} {Kp : Mu → Prop}
theorem LstOf.at (R : Rep W G M F H) {a : Addr} {xs0 : List V} {G0 : Hp} (s : Same G0 G) (h0 : Dat W G0 d (.ref a)) (l : LstOf M d ds) : ∃ xs, H a = some (.lst xs) ∧ DatL W G ds xs := by
  obtain ⟨b, xs, e1, e2, e3⟩ := lst_at R (h0.mono s) l
  cases e1
  exact ⟨xs, e2, e3⟩
theorem itl_okM {a : Addr} (h : Dat W G d (.ref a)) : ItOkM W G (fun M => LstOf M d ds) (Itl W.K a) ds where
  go := fun i G' F M H' s R l hi => by
    obtain ⟨xs, e2, e3⟩ := LstOf.at R (xs0 := []) s h l
    have hl := e3.length
    exact ⟨xs, xs[i], SqL.of e2, by simp [hl, hi]⟩
  stop := fun i G' F M H' s R l hi => by
    obtain ⟨xs, e2, e3⟩ := LstOf.at R (xs0 := []) s h l
    exact ⟨xs, SqL.of e2, by rw [e3.length]; exact hi⟩
  yld := fun i d' G' F M H' x H'' s R l e ⟨e1, y⟩ => by
    subst e1
    obtain ⟨xs, e2, e3⟩ := LstOf.at R (xs0 := []) s h l
    obtain ⟨z, h1, h2⟩ := e3.get e
    have q := y xs (SqL.of e2)
    rw [h1] at q
    cases q
    exact ⟨G', Same.refl G', R, h2⟩
theorem ite_okM {a : Addr} (h : Dat W G d (.ref a)) : ItOkM W G (fun M => LstOf M d ds) (Ite W.K a) (enumD ds) where
  go := fun i G' F M H' s R l hi => by
    obtain ⟨xs, e2, e3⟩ := LstOf.at R (xs0 := []) s h l
    have hl := e3.length
    have hi' : i < ds.length := by simpa [enumD] using hi
    exact ⟨xs, xs[i], SqL.of e2, by simp [hl, hi']⟩
  stop := fun i G' F M H' s R l hi => by
    obtain ⟨xs, e2, e3⟩ := LstOf.at R (xs0 := []) s h l
    have hi' : ds.length ≤ i := by simpa [enumD] using hi
    exact ⟨xs, SqL.of e2, by rw [e3.length]; exact hi'⟩
  yld := fun i d' G' F M H' x H'' s R l e ⟨T, z, e1, hT, e2, y⟩ => by
    subst e1 e2
    obtain ⟨d0, q, rfl⟩ := enumD_get e
    obtain ⟨xs, f2, f3⟩ := LstOf.at R (xs0 := []) s h l
    obtain ⟨z', h1, h2⟩ := f3.get q
    have q2 := y xs (SqL.of f2)
    rw [h1] at q2
    injection q2 with q2
    subst q2
    have sn := same_new (o := .tup [.int (i : Nat), z']) (R.gnone hT)
    exact ⟨_, sn, R.new hT, dat_tup.mpr ⟨T, _, rfl, SqT.of upd_same, datL_cons' dat_v' (datL_cons' (h2.mono sn) datL_nil')⟩⟩
def iListM (K : PySem.W.Frag) (te : TE) : TI := iList K te
def iEnumM (K : PySem.W.Frag) (tx : TA) : TI := iEnum K tx
theorem k_lsM {X : Cx} {K : PySem.W.Frag} {tg l : Expr} {tl : TE} (eK : X.K = K) (hl : PE X l tl) : PI X tg l (iListM K tl) := k_ls eK hl
theorem wim_list {R2 : List DV → (Mu → Prop) → Mu → Prop} (h : WE Z te ρ M fun d M1 => ∃ ds, LstOf M1 d ds ∧ R2 ds (fun M => LstOf M d ds) M1) : WIM Z (iListM Z.W.K te) ρ M R2 := fun G σ H R s Rp E r =>
  h G σ H _ s Rp E fun d v G1 M1 H1 s1 R1 x q => by
    obtain ⟨ds, l, q⟩ := q
    obtain ⟨a, xs, e1, e2, e3⟩ := lst_at R1 x l
    subst e1
    exact ⟨a, rfl, ⟨xs, SqL.of e2⟩, r ds _ _ G1 M1 H1 s1 R1 (itl_okM x) q⟩
theorem wim_enum {R2 : List DV → (Mu → Prop) → Mu → Prop} (h : WA Z tx ρ M fun ds M1 => ∃ d es, ds = [d] ∧ LstOf M1 d es ∧ R2 (enumD es) (fun M => LstOf M d es) M1) : WIM Z (iEnumM Z.W.K tx) ρ M R2 := fun G σ H R s Rp E r =>
  h G σ H _ s Rp E fun ds vs G1 M1 H1 s1 R1 x q => by
    obtain ⟨d, es, rfl, l, q⟩ := q
    obtain ⟨y, e1, h3⟩ := one_of x
    obtain ⟨a, xs, e2, e3, e4⟩ := lst_at R1 h3 l
    subst e1 e2
    exact ⟨a, xs, rfl, SqL.of e3, r _ _ _ G1 M1 H1 s1 R1 (ite_okM h3) q⟩
theorem ws_forM (h : WIM Z wi ρ M fun items Kp M1 => LoopM Z g ts D2 Kp items ρ M1) : WS Z (tFor wi g ts) D2 ρ M := fun G σ H D s R E e => by
  refine h G σ H _ s R E fun items Kp J G1 M1 H1 s1 R1 it q => ?_
  refine ⟨fun i m σ' H' => ∃ G' ρ' M', Same G1 G' ∧ Rep Z.W G' M' Z.F H' ∧ EnvOk Z.W G' ρ' σ' ∧ i ≤ items.length ∧ m = items.length - i ∧ LoopM Z g ts D2 Kp (items.drop i) ρ' M', ⟨items.length, G1, ρ, M1, Same.refl G1, R1, E.mono s1, Nat.zero_le _, rfl, q⟩, ?_⟩
  rintro i m σ' H' ⟨G', ρ', M', sg, R', E', hi, rfl, lp⟩
  by_cases hlt : i < items.length
  · rw [drop_cons hlt] at lp
    obtain ⟨kp, lp⟩ := lp
    refine .inr ⟨it.go i G' Z.F M' H' sg R' kp hlt, fun σ2 H2 => ∃ G2 ρ2 M2, Same G1 G2 ∧ Rep Z.W G2 M2 Z.F H2 ∧ EnvOk Z.W G2 ρ2 σ2 ∧ LoopM Z g ts D2 Kp (items.drop (i + 1)) ρ2 M2, ?_, fun x H2 y => ?_⟩
    · rintro σ2 H2 ⟨G2, ρ2, M2, a1, a2, a3, a4⟩
      exact ⟨items.length - (i + 1), by omega, G2, ρ2, M2, a1, a2, a3, hlt, rfl, a4⟩
    · obtain ⟨G2, s2, R2, dx⟩ := it.yld i _ G' Z.F M' H' x H2 sg R' kp (List.getElem?_eq_getElem hlt) y
      refine lp G2 σ' H2 x _ ((s.trans s1).trans (sg.trans s2)) R2 (E'.mono s2) dx fun ρ3 σ3 G3 M3 H3 s3 R3 E3 q3 => ?_
      have s13 : Same G1 G3 := (sg.trans s2).trans s3
      refine q3 G3 σ3 H3 _ ((s.trans s1).trans s13) R3 E3 ⟨fun ρ4 σ4 G4 M4 H4 s4 R4 E4 q4 => ⟨G4, ρ4, M4, s13.trans s4, R4, E4, q4⟩, e.rt.mono (s1.trans s13), e.nx.mono (s1.trans s13), fun ρ4 σ4 G4 M4 H4 s4 R4 E4 q4 => ⟨G4, ρ4, M4, s13.trans s4, R4, E4, q4⟩⟩
  · have ei : i = items.length := by omega
    subst ei
    rw [List.drop_length] at lp
    exact .inl ⟨it.stop _ G' Z.F M' H' sg R' lp.1 (Nat.le_refl _), e.nx ρ' σ' G' M' H' (s1.trans sg) R' E' lp.2⟩
theorem we_lcM {is : List Nat} (hg : GOk g is) (h : WIM Z wi ρ M fun items Kp M1 => CompM Z g tt te (wipe2 ρ is) (fun acc M2 => Q2 (.lst acc) M2) Kp items [] M1) : WE Z (tLc wi g tt te is) ρ M Q2 := fun G σ H Q s R E r => by
  refine h G σ H _ s R E fun items Kp J G1 M1 H1 s1 R1 it q => ?_
  intro D hD
  have fD : Z.F D = none := R1.fnone hD
  refine ⟨fun i m H' => ∃ G' M' acc accV, Same G1 G' ∧ Rep Z.W G' M' (upd Z.F D (.lst accV)) H' ∧ DatL Z.W G' acc accV ∧ i ≤ items.length ∧ m = items.length - i ∧ CompM Z g tt te (wipe2 ρ is) (fun acc M2 => Q2 (.lst acc) M2) Kp (items.drop i) acc M',
    ⟨items.length, G1, M1, [], [], Same.refl G1, R1.toFr hD, datL_nil', Nat.zero_le _, rfl, q⟩, ?_⟩
  rintro i m H' ⟨G', M', acc, accV, sg, R', hacc, hi, rfl, lp⟩
  by_cases hlt : i < items.length
  · rw [drop_cons hlt] at lp
    obtain ⟨kp, hz, lp⟩ := lp
    refine .inr ⟨it.go i G' _ M' H' sg R' kp hlt, fun H2 => ∃ G2 M2 acc2 acc2V, Same G1 G2 ∧ Rep Z.W G2 M2 (upd Z.F D (.lst acc2V)) H2 ∧ DatL Z.W G2 acc2 acc2V ∧ CompM Z g tt te (wipe2 ρ is) (fun acc M2 => Q2 (.lst acc) M2) Kp (items.drop (i + 1)) acc2 M2, ?_, fun x H2 y => ?_⟩
    · rintro H2 ⟨G2, M2, acc2, acc2V, a1, a2, a3, a4⟩
      exact ⟨items.length - (i + 1), by omega, G2, M2, acc2, acc2V, a1, a2, a3, hlt, rfl, a4⟩
    · obtain ⟨G2, s2, R2, dx⟩ := it.yld i _ G' _ M' H' x H2 sg R' kp (List.getElem?_eq_getElem hlt) y
      have E2 : EnvOk Z.W G2 (wipe2 ρ is) (L2.wipe σ is) := ((E.mono s1).mono (sg.trans s2)).wipe is
      refine hg x σ (L2.wipe σ is) H2 _ (wipe_idem σ is) ?_
      refine lp (upd Z.F D (.lst accV)) G2 (L2.wipe σ is) H2 x _ ((s.trans s1).trans (sg.trans s2)) R2 E2 dx fun ρ3 σ3 G3 M3 H3 s3 R3 E3 q3 => ?_
      have s13 : Same G1 G3 := (sg.trans s2).trans s3
      refine q3 G3 σ3 H3 _ ((s.trans s1).trans s13) R3 E3 fun b G4 M4 H4 s4 R4 q4 => ?_
      cases b with
      | false => exact ⟨G4, M4, acc, accV, s13.trans s4, R4, hacc.mono ((s2.trans s3).trans s4), q4⟩
      | true =>
        refine q4 G4 σ3 H4 _ ((s.trans s1).trans (s13.trans s4)) R4 (E3.mono s4) fun yd yv G5 M5 H5 s5 R5 dy q5 => ?_
        have s25 : Same G' G5 := ((s2.trans s3).trans s4).trans s5
        refine ⟨accV, R5.fr D _ upd_same, by rw [hacc.length]; exact hz, ?_⟩
        exact ⟨G5, M5, acc ++ [yd], accV ++ [yv], sg.trans s25, R5.frSet, (hacc.mono s25).append (datL_cons' dy datL_nil'), q5⟩
  · have ei : i = items.length := by omega
    subst ei
    rw [List.drop_length] at lp
    refine .inl ⟨it.stop _ G' _ M' H' sg R' lp.1 (Nat.le_refl _), ?_⟩
    have gD := (R'.fd D _ upd_same).1
    exact r _ _ (upd G' D (.lst accV)) M' H' ((s1.trans sg).trans (same_new gD)) (R'.ofFr fD) (dat_lst.mpr ⟨D, accV, rfl, upd_same, hacc.mono (same_new gD)⟩) lp.2
theorem loop_wordM (I : Nat → Ro → Mu → Prop) (hkp : ∀ j ρ M, I j ρ M → Kp M) : ∀ (items : List DV) (j : Nat) (ρ : Ro) (M : Mu), I j ρ M →
    (∀ i d ρ M, items[i]? = some d → I (j + i) ρ M → WG Z g d ρ M fun ρ1 M1 => WS Z ts { D2 with nx := I (j + i + 1), ct := I (j + i + 1), bk := D2.nx } ρ1 M1) →
    (∀ ρ M, I (j + items.length) ρ M → D2.nx ρ M) → LoopM Z g ts D2 Kp items ρ M
  | [], j, ρ, M, h0, hs, hk => ⟨hkp _ _ _ h0, hk ρ M h0⟩
  | d :: ds, j, ρ, M, h0, hs, hk => by
    refine ⟨hkp _ _ _ h0, (hs 0 d ρ M rfl h0).imp fun ρ1 M1 q => ?_⟩
    have key : ∀ ρ M, I (j + 1) ρ M → LoopM Z g ts D2 Kp ds ρ M := fun ρ' M' h => loop_wordM I hkp ds (j + 1) ρ' M' h (fun i d' ρ2 M2 hi hI => by
      have := hs (i + 1) d' ρ2 M2 hi (by rw [show j + (i + 1) = j + 1 + i by omega]; exact hI)
      rw [show j + (i + 1) = j + 1 + i by omega] at this
      exact this) fun ρ2 M2 hI => hk ρ2 M2 (by rw [List.length_cons, show j + (ds.length + 1) = j + 1 + ds.length by omega]; exact hI)
    exact q.imp key (fun _ _ h => h) (fun _ _ h => h) key
theorem comp_mapM {k : List DV → Mu → Prop} (f : DV → DV) (kp : Kp M) : ∀ (items acc : List DV), acc.length + items.length ≤ sizeLine →
    (∀ d ∈ items, ∀ F k2, k2 (f d) M → WG (Z.fr F) g d ρ M fun ρ2 M2 => WT (Z.fr F) tt ρ2 M2 fun b M3 => b = true ∧ WE (Z.fr F) te ρ2 M3 k2) → k (acc ++ items.map f) M → CompM Z g tt te ρ k Kp items acc M
  | [], acc, hz, h, q => by
    refine ⟨kp, ?_⟩
    simpa using q
  | d :: ds, acc, hz, h, q => by
    simp only [List.length_cons] at hz
    refine ⟨kp, by omega, fun F => ?_⟩
    have := h d List.mem_cons_self F (fun y M4 => CompM Z g tt te ρ k Kp ds (acc ++ [y]) M4) (comp_mapM f kp ds (acc ++ [f d]) (by simp; omega) (fun d' hd => h d' (List.mem_cons_of_mem _ hd)) (by simpa using q))
    intro G σ H v P s R E x n
    refine this G σ H v P s R E x fun ρ1 σ1 G1 M1 H1 s1 R1 E1 q1 => n ρ1 σ1 G1 M1 H1 s1 R1 E1 ?_
    exact q1.imp fun b M' ⟨hb, q⟩ => by rw [if_pos hb]; exact q
end
end DL
set_option Elab.async false
set_option linter.all false
set_option maxRecDepth 100000
set_option maxHeartbeats 2000000
namespace DL
open PySem PySem.Spec PyProof.Rows L2
theorem k_enumM {X : Cx} {K : PySem.W.Frag} {e : Expr} {ta : TA} {p pos tpos : Pos} {elts : List Expr} {kk : Nat} (eK : X.K = K) (hg : Gl X "enumerate") (hm : X.mg "enumerate" = none) (ha : PA X [e] ta) (hs : starEach [e] X.env = [(false, eval e X.env)] := by rfl) :
    PI X (.Tuple elts kk tpos) (.Call (.Name "enumerate" p) [e] [] pos) (iEnumM K ta) := k_enum eK hg hm ha hs
section
variable {K : PySem.W.Frag} {Z : Zn} {ρ : Ro} {M : Mu} {Q2 : DQ} {d e : DV} {ds es : List DV} {te : TE} {tx : TA} {ts : TS} {tt : TT} {g : TG} {D2 : Ends2}
theorem fld_of {P : DV → Prop} {C : Addr} {ns : List Str} {f : Str} (h1 : ObjOf M d C ns ds) (h2 : Cls K C) (h3 : NoAttr K C f) (h4 : (ns.zip ds).lookup f = some e) (q : P e) : ∃ C ns ds e, ObjOf M d C ns ds ∧ Cls K C ∧ NoAttr K C f ∧ (ns.zip ds).lookup f = some e ∧ P e := ⟨C, ns, ds, e, h1, h2, h3, h4, q⟩
theorem sfld_of {P : Mu → Prop} {a C : Addr} {ns : List Str} {f : Str} (h1 : M a = some (.ins C ns ds)) (h2 : Cls K C) (h3 : NoAttr K C f) (h4 : Nat.ble ns.length 100 = true) (q : P (updM M a (.ins C (putN f ns) (putD f e ns ds)))) :
    ∃ a' C ns ds, DV.r a = .r a' ∧ M a' = some (.ins C ns ds) ∧ Cls K C ∧ NoAttr K C f ∧ ns.length < 1000 ∧ P (updM M a' (.ins C (putN f ns) (putD f e ns ds))) := ⟨a, C, ns, ds, rfl, h1, h2, h3, by have := Nat.le_of_ble_eq_true h4; omega, q⟩
theorem ws_forML (h : WE Z te ρ M fun d M1 => ∃ ds, LstOf M1 d ds ∧ LoopM Z g ts D2 (fun M => LstOf M d ds) ds ρ M1) : WS Z (tFor (iListM Z.W.K te) g ts) D2 ρ M := ws_forM (wim_list h)
theorem ws_forME (h : WA Z tx ρ M fun ds M1 => ∃ d es, ds = [d] ∧ LstOf M1 d es ∧ LoopM Z g ts D2 (fun M => LstOf M d es) (enumD es) ρ M1) : WS Z (tFor (iEnumM Z.W.K tx) g ts) D2 ρ M := ws_forM (wim_enum h)
theorem we_lcML {tf : TE} {is : List Nat} (hg : GOk g is) (h : WE Z te ρ M fun d M1 => ∃ ds, LstOf M1 d ds ∧ CompM Z g tt tf (wipe2 ρ is) (fun acc M2 => Q2 (.lst acc) M2) (fun M => LstOf M d ds) ds [] M1) : WE Z (tLc (iListM Z.W.K te) g tt tf is) ρ M Q2 := we_lcM hg (wim_list h)
theorem compM_nrm {tf : TE} {is : List Nat} {k : List DV → Mu → Prop} {Kp : Mu → Prop} {items acc : List DV} {y : Option DV} {l : Ro} (h : wipe2 ρ is = y :: l) (q : CompM Z g tt tf (y :: l) k Kp items acc M) : CompM Z g tt tf (wipe2 ρ is) k Kp items acc M := h ▸ q
end
def lstM (M : Mu) : DV → Option (List DV)
  | .lst ds => some ds
  | .v (.ref a) => match M a with
    | some (.lst ds) => some ds
    | _ => none
  | _ => none
theorem lstM_of {M : Mu} {d : DV} {ds : List DV} : lstM M d = some ds ↔ LstOf M d ds := by
  constructor
  · intro h
    unfold lstM at h
    split at h
    · cases h; exact .inl rfl
    · split at h
      · cases h; exact .inr ⟨_, rfl, by assumption⟩
      · cases h
    · cases h
  · rintro (rfl | ⟨a, rfl, h⟩)
    · rfl
    · simp [lstM, h]
/-- a thing whose kind is known; texts and tuples not too large -/
def Kn (M : Mu) (d : DV) : Prop := (∃ k, kdM M d = some k) ∧ (∀ z, d = .s z → z.length ≤ 1000)
theorem Kn.i {M : Mu} {i : Int} : Kn M (.i i) := ⟨⟨.int, rfl⟩, fun z h => by cases h⟩
theorem Kn.n {M : Mu} : Kn M .n := ⟨⟨.none, rfl⟩, fun z h => by cases h⟩
theorem Kn.b {M : Mu} {b : Bool} : Kn M (.b b) := ⟨⟨.bool, rfl⟩, fun z h => by cases h⟩
theorem Kn.tup {M : Mu} {ds : List DV} : Kn M (.tup ds) := ⟨⟨.tuple, rfl⟩, fun z h => by cases h⟩
theorem Kn.lst {M : Mu} {ds : List DV} : Kn M (.lst ds) := ⟨⟨.list, rfl⟩, fun z h => by cases h⟩
theorem Kn.s {M : Mu} {z : Str} (h : z.length ≤ 1000) : Kn M (.s z) := ⟨⟨.str, rfl⟩, fun z' e => by cases e; exact h⟩
theorem Kn.dk {M : Mu} {ks : List Key} {ds : List DV} : Kn M (.dk ks ds) := ⟨⟨.dict, rfl⟩, fun z h => by cases h⟩
theorem Kn.r {M : Mu} {a : Addr} {ds : List DV} (h : M a = some (.lst ds)) : Kn M (.r a) := ⟨⟨.list, kd_r h⟩, fun z h => by cases h⟩
def isIntD : DV → Bool
  | .v (.int _) => true
  | _ => false
def isNameD : DV → Bool
  | .v (.str z) => nameB z
  | _ => false
def isRowD (d : DV) (m : Int) : Bool := match d with
  | .tup es => decide (((es.length : Nat) : Int) = m) && es.all isIntD
  | _ => false
def strsD : List DV → List Str
  | [] => []
  | .v (.str z) :: ds => z :: strsD ds
  | _ :: ds => strsD ds
def intsD : List DV → List Int
  | [] => []
  | .v (.int z) :: ds => z :: intsD ds
  | _ :: ds => intsD ds
theorem strsD_map : ∀ zs : List Str, strsD (zs.map DV.s) = zs
  | [] => rfl
  | z :: zs => by simp [strsD, strsD_map zs]
theorem intsD_map : ∀ zs : List Int, intsD (zs.map DV.i) = zs
  | [] => rfl
  | z :: zs => by simp [intsD, intsD_map zs]
theorem isNameD_s {d : DV} (h : isNameD d = true) : ∃ z, d = .s z ∧ nameB z = true := by
  unfold isNameD at h
  split at h
  · exact ⟨_, rfl, h⟩
  · cases h
theorem isIntD_i {d : DV} (h : isIntD d = true) : ∃ i, d = .i i := by
  unfold isIntD at h
  split at h
  · exact ⟨_, rfl⟩
  · cases h
theorem names_map : ∀ {ds : List DV}, ds.all isNameD = true → ds = (strsD ds).map DV.s
  | [], _ => rfl
  | d :: ds, h => by
    simp only [List.all_cons, Bool.and_eq_true] at h
    obtain ⟨z, rfl, _⟩ := isNameD_s h.1
    rw [strsD, List.map_cons, ← names_map h.2]
theorem ints_map : ∀ {ds : List DV}, ds.all isIntD = true → ds = (intsD ds).map DV.i
  | [], _ => rfl
  | d :: ds, h => by
    simp only [List.all_cons, Bool.and_eq_true] at h
    obtain ⟨z, rfl⟩ := isIntD_i h.1
    rw [intsD, List.map_cons, ← ints_map h.2]
theorem isRowD_of {d : DV} {m : Int} (h : isRowD d m = true) : ∃ r : List Int, d = rowD r ∧ ((r.length : Nat) : Int) = m := by
  unfold isRowD at h
  split at h
  · rename_i es
    simp only [Bool.and_eq_true, decide_eq_true_eq] at h
    refine ⟨intsD es, by rw [rowD, ← ints_map h.2], ?_⟩
    rw [← h.1]
    conv => rhs; rw [ints_map h.2]
    rw [List.length_map]
  · cases h
theorem isRowD_row {r : List Int} : isRowD (rowD r) ((r.length : Nat) : Int) = true := by
  have : (r.map DV.i).all isIntD = true := by simp [isIntD]
  simp [isRowD, this]
def okNames (zs : List Str) : Prop := zs.length ≤ 8 ∧ (∀ z ∈ zs, nameB z = true) ∧ zs.Nodup
instance (zs : List Str) : Decidable (okNames zs) := by unfold okNames; infer_instance
def areCols (ds : List DV) : Bool := decide (ds.length ≤ 8) && (ds.all isNameD && decide (strsD ds).Nodup)
theorem name_len {z : Str} (h : nameB z = true) : z.length ≤ 8 := by
  unfold nameB at h
  simp only [Bool.and_eq_true, decide_eq_true_eq] at h
  omega
theorem areCols_names {zs : List Str} (h : okNames zs) : areCols (zs.map DV.s) = true := by
  have : (zs.map DV.s).all isNameD = true := by
    rw [List.all_eq_true]
    intro d hd
    obtain ⟨z, hz, rfl⟩ := List.mem_map.mp hd
    exact h.2.1 z hz
  simp [areCols, this, strsD_map, h.1, h.2.2]
theorem areCols_of {ds : List DV} (h : areCols ds = true) : ∃ zs, ds = zs.map DV.s ∧ okNames zs := by
  unfold areCols at h
  simp only [Bool.and_eq_true, decide_eq_true_eq] at h
  obtain ⟨h1, h2, h3⟩ := h
  have e := names_map h2
  refine ⟨strsD ds, e, ?_, fun z hz => ?_, h3⟩
  · have := congrArg List.length e
    rw [List.length_map] at this
    omega
  · have hz' : DV.s z ∈ ds := by rw [e]; exact List.mem_map.mpr ⟨z, hz, rfl⟩
    exact List.all_eq_true.mp h2 _ hz'
/-- the columns that a thing is, if it is such -/
def colsM (M : Mu) (d : DV) : Option (List Str) := match lstM M d with
  | some ds => if areCols ds = true then some (strsD ds) else none
  | none => none
theorem colsM_some {M : Mu} {d : DV} {zs : List Str} (h : colsM M d = some zs) : LstOf M d (zs.map DV.s) ∧ okNames zs := by
  unfold colsM at h
  split at h
  · rename_i ds e
    split at h
    · rename_i hc
      cases h
      obtain ⟨zs, rfl, ho⟩ := areCols_of hc
      rw [strsD_map]
      exact ⟨lstM_of.mp e, ho⟩
    · cases h
  · cases h
theorem colsM_ok {M : Mu} {d : DV} {zs : List Str} (l : LstOf M d (zs.map DV.s)) (h : okNames zs) : colsM M d = some zs := by
  unfold colsM
  rw [lstM_of.mpr l]
  simp only [areCols_names h, if_true, strsD_map]
/-- the number of the first thing that is no row -/
def badAt (m : Int) : List DV → Nat → Option Nat
  | [], _ => none
  | d :: ds, j => if isRowD d m = true then badAt m ds (j + 1) else some j
def rowsD : List DV → List (List Int)
  | [] => []
  | .tup es :: ds => intsD es :: rowsD ds
  | _ :: ds => rowsD ds
theorem rowsD_map : ∀ rows : List (List Int), rowsD (rows.map rowD) = rows
  | [] => rfl
  | r :: rows => by simp [rowsD, rowsD_map rows, intsD_map]
theorem badAt_none {m : Int} : ∀ {ds : List DV} {j : Nat}, badAt m ds j = none → ds = (rowsD ds).map rowD ∧ ∀ r ∈ rowsD ds, ((r.length : Nat) : Int) = m
  | [], j, h => ⟨rfl, by simp [rowsD]⟩
  | d :: ds, j, h => by
    unfold badAt at h
    split at h
    · rename_i hr
      obtain ⟨r, rfl, hl⟩ := isRowD_of hr
      obtain ⟨h1, h2⟩ := badAt_none h
      have e : rowsD (rowD r :: ds) = r :: rowsD ds := by simp [rowsD, intsD_map]
      rw [e, List.map_cons, ← h1]
      exact ⟨rfl, fun r' hr' => by
        rcases List.mem_cons.mp hr' with rfl | hr'
        · exact hl
        · exact h2 r' hr'⟩
    · cases h
theorem badAt_rows {m : Int} : ∀ {rows : List (List Int)} {j : Nat}, (∀ r ∈ rows, ((r.length : Nat) : Int) = m) → badAt m (rows.map rowD) j = none
  | [], j, h => rfl
  | r :: rows, j, h => by
    rw [List.map_cons, badAt, if_pos, badAt_rows fun r' hr' => h r' (List.mem_cons_of_mem _ hr')]
    rw [← h r List.mem_cons_self]
    exact isRowD_row
/-- what comes of rows told: the first that is none, or the rows -/
def rowsM (M : Mu) (m : Int) (d : DV) : Nat ⊕ List (List Int) := match d with
  | .v .non => .inr []
  | d => match lstM M d with
    | some ds => match badAt m ds 0 with
      | some j => .inl j
      | none => .inr (rowsD ds)
    | none => .inl 0
theorem rowsM_ok {M : Mu} {m : Int} {d : DV} {rows : List (List Int)} (l : LstOf M d (rows.map rowD)) (h : ∀ r ∈ rows, ((r.length : Nat) : Int) = m) : rowsM M m d = .inr rows := by
  unfold rowsM
  split
  · rcases l with l | ⟨a, l, _⟩ <;> cases l
  · rw [lstM_of.mpr l]
    simp only [badAt_rows h, rowsD_map]
end DL
set_option Elab.async false
set_option linter.all false
set_option maxRecDepth 100000
set_option maxHeartbeats 2000000
namespace DL
open PySem PySem.Spec PyProof.Rows L2
theorem k_sfld {X : Cx} {K : PySem.W.Frag} {o value : Expr} {ta tv : TE} {f : Str} {pos pos' : Pos} (eK : X.K = K) (ha : PE X o ta) (hv : PE X value tv) (hs : swapsWith value (some (.Attribute o f pos')) pos.line X.env = pure false) : PS X (.Assign [.Attribute o f pos'] value pos) (sFld K ta tv f) := by subst eK; exact ps_fld ha hv hs
section
variable {Z : Zn} {ρ : Ro} {M : Mu} {ts : TS} {D2 : Ends2} {d : DV} {ds : List DV} {g : TG} {Kp : Mu → Prop}
theorem loop_KI {tr : TS} (is : List Nat) (I : Nat → Prop) {items : List DV} (kp : Kp M) (h0 : I 0)
    (hs : ∀ (i : Nat) d, items[i]? = some d → I i → WG Z g d (wipe2 ρ is) M fun ρ1 M1 => WS Z ts { nx := fun ρ2 M2 => wipe2 ρ2 is = wipe2 ρ is ∧ M2 = M ∧ I (i + 1), rt := D2.rt, bk := fun ρ2 M2 => WS Z tr D2 ρ2 M2, ct := fun ρ2 M2 => wipe2 ρ2 is = wipe2 ρ is ∧ M2 = M ∧ I (i + 1) } ρ1 M1)
    (hk : I items.length → WS Z tr D2 (wipe2 ρ is) M) : LoopM Z g ts { nx := fun ρ' M' => WS Z tr D2 ρ' M', rt := D2.rt, bk := D2.bk, ct := D2.ct } Kp items ρ M := by
  refine loop_wordM (fun j ρ2 M2 => wipe2 ρ2 is = wipe2 ρ is ∧ M2 = M ∧ I j) (fun j ρ2 M2 h => by rw [h.2.1]; exact kp) items 0 ρ M ⟨rfl, rfl, h0⟩ (fun i d ρ2 M2 hi h => ?_) fun ρ2 M2 h => ?_
  · rw [Nat.zero_add] at h ⊢
    obtain ⟨h1, rfl, h2⟩ := h
    refine wg_env is ?_
    rw [h1]
    exact hs i d hi h2
  · rw [Nat.zero_add] at h
    obtain ⟨h1, rfl, h2⟩ := h
    refine ws_env is ?_
    rw [h1]
    exact hk h2
/-- .. over a frozen list -/
theorem loop_KF {tr : TS} (is : List Nat) (I : Nat → Prop) {items : List DV} (h0 : I 0)
    (hs : ∀ (i : Nat) d, items[i]? = some d → I i → WG Z g d (wipe2 ρ is) M fun ρ1 M1 => WS Z ts { nx := fun ρ2 M2 => wipe2 ρ2 is = wipe2 ρ is ∧ M2 = M ∧ I (i + 1), rt := D2.rt, bk := fun ρ2 M2 => WS Z tr D2 ρ2 M2, ct := fun ρ2 M2 => wipe2 ρ2 is = wipe2 ρ is ∧ M2 = M ∧ I (i + 1) } ρ1 M1)
    (hk : I items.length → WS Z tr D2 (wipe2 ρ is) M) : Loop Z g ts { nx := fun ρ' M' => WS Z tr D2 ρ' M', rt := D2.rt, bk := D2.bk, ct := D2.ct } items ρ M := by
  refine loop_word (fun j ρ2 M2 => wipe2 ρ2 is = wipe2 ρ is ∧ M2 = M ∧ I j) items 0 ρ M ⟨rfl, rfl, h0⟩ (fun i d ρ2 M2 hi h => ?_) fun ρ2 M2 h => ?_
  · rw [Nat.zero_add] at h ⊢
    obtain ⟨h1, rfl, h2⟩ := h
    refine wg_env is ?_
    rw [h1]
    exact hs i d hi h2
  · rw [Nat.zero_add] at h
    obtain ⟨h1, rfl, h2⟩ := h
    refine ws_env is ?_
    rw [h1]
    exact hk h2
theorem ws_cut (I : Ro → Mu → Prop) (h1 : WS Z ts { D2 with nx := I } ρ M) (h2 : ∀ ρ' M', I ρ' M' → D2.nx ρ' M') : WS Z ts D2 ρ M := h1.imp h2 (fun _ _ h => h) (fun _ _ h => h) (fun _ _ h => h)
theorem we_callX {sp2 : Sp2} {E : XK} {E2 : XK2} {tx : TA} {Q2 : DQ} (hx : XcOk Z E2 E) (h : WA Z tx ρ M fun ds M1 => Ask (sp2 ds M1 Q2 E2)) : WE Z (tCall (lift Z.W sp2) [] E tx) ρ M Q2 := we_call0 hx h
theorem we_callXD {sp2 : Sp2} {E : XK} {E2 : XK2} {dvs : List V} {tx : TA} {Q2 : DQ} (hx : XcOk Z E2 E) (h : WA Z tx ρ M fun ds M1 => Ask (sp2 (ds ++ dvs.map DV.v) M1 Q2 E2)) : WE Z (tCall (lift Z.W sp2) dvs E tx) ρ M Q2 := we_call hx h
theorem we_methX {sp2 : Sp2} {E : XK} {E2 : XK2} {C : Addr} {m : Str} {ta : TE} {tx : TA} {Q2 : DQ} (hx : XcOk Z E2 E) (h : WE Z ta ρ M fun d M1 => Obj M1 d C m ∧ WA Z tx ρ M1 fun es M2 => Ask (sp2 (d :: es) M2 Q2 E2)) : WE Z (tMeth C m (lift Z.W sp2) [] E ta tx) ρ M Q2 := we_meth0 hx h
theorem we_methXD {sp2 : Sp2} {E : XK} {E2 : XK2} {C : Addr} {m : Str} {dvs : List V} {ta : TE} {tx : TA} {Q2 : DQ} (hx : XcOk Z E2 E) (h : WE Z ta ρ M fun d M1 => Obj M1 d C m ∧ WA Z tx ρ M1 fun es M2 => Ask (sp2 (d :: (es ++ dvs.map DV.v)) M2 Q2 E2)) : WE Z (tMeth C m (lift Z.W sp2) dvs E ta tx) ρ M Q2 := we_meth hx h
theorem we_callY {sp2 : Sp2} {W2 : WX2} {Wx : WX} {tx : TA} {Q2 : DQ} (hw : WxOk Z W2 Wx) (h : WA Z tx ρ M fun ds M1 => Ask (sp2 ds M1 Q2 (fun C ns es M' => W2 C ns es ρ M'))) : WE Z (tCallS (lift Z.W sp2) (L2.WE Wx) tx) ρ M Q2 := we_callS hw h
theorem XcOk.weak {E2 : XK2} {E : XK} (hx : XcOk Z E2 E) : XcOk Z (fun C ns ds M => ∃ M', MLe M M' ∧ E2 C ns ds M') E := fun C ns ds d G' M' H' s R x ⟨M2, l, q⟩ => hx C ns ds d G' M2 H' s (R.weak l) x q
theorem MLe.dropN {x : Addr} {o : MO} (h : M x = none) : MLe (updM M x o) M := fun b => by
  by_cases e : b = x
  · subst e; rw [h]; exact .drop
  · rw [updM_ne e]; exact .rf
theorem LstOf.upd {x : Addr} {o o' : MO} (h : M x = some o) (ho : ∀ ds, o ≠ .lst ds) (l : LstOf M d ds) : LstOf (updM M x o') d ds := by
  rcases l with rfl | ⟨a, rfl, hm⟩
  · exact .inl rfl
  · refine .inr ⟨a, rfl, ?_⟩
    have : a ≠ x := fun e => by
      rw [e, h] at hm
      cases hm
      exact ho _ rfl
    rw [updM_ne this]
    exact hm
theorem LstOf.updN {x : Addr} {o' : MO} (h : M x = none) (l : LstOf M d ds) : LstOf (updM M x o') d ds := by
  rcases l with rfl | ⟨a, rfl, hm⟩
  · exact .inl rfl
  · refine .inr ⟨a, rfl, ?_⟩
    rw [updM_ne (fun e => by rw [e, h] at hm; cases hm)]
    exact hm
end
theorem lstM_new {M : Mu} {x : Addr} {o : MO} (h : M x = none) (ho : ∀ ds, o ≠ .lst ds) (d : DV) : lstM (updM M x o) d = lstM M d := by
  cases e : lstM M d with
  | some ds => exact lstM_of.mpr ((lstM_of.mp e).updN h)
  | none =>
    cases e2 : lstM (updM M x o) d with
    | none => rfl
    | some ds =>
      rcases lstM_of.mp e2 with rfl | ⟨a, rfl, hm⟩
      · cases e
      · by_cases q : a = x
        · subst q
          rw [updM_same] at hm
          cases hm
          exact absurd rfl (ho _)
        · rw [updM_ne q] at hm
          have := lstM_of.mpr (show LstOf M (.r a) ds from .inr ⟨a, rfl, hm⟩)
          rw [this] at e
          cases e
theorem colsM_new {M : Mu} {x : Addr} {o : MO} (h : M x = none) (ho : ∀ ds, o ≠ .lst ds) (d : DV) : colsM (updM M x o) d = colsM M d := by
  unfold colsM
  rw [lstM_new h ho]
theorem rowsM_new {M : Mu} {x : Addr} {o : MO} (h : M x = none) (ho : ∀ ds, o ≠ .lst ds) (m : Int) (d : DV) : rowsM (updM M x o) m d = rowsM M m d := by
  unfold rowsM
  split
  · rfl
  · rw [lstM_new h ho]
theorem Kn.new {M : Mu} {x : Addr} {o : MO} (h : M x = none) {d : DV} (k : Kn M d) : Kn (updM M x o) d := by
  obtain ⟨⟨k, hk⟩, hz⟩ := k
  refine ⟨⟨k, ?_⟩, hz⟩
  rw [← hk]
  cases d with
  | v y =>
    cases y with
    | ref a =>
      by_cases e : a = x
      · subst e
        simp [kdM, h] at hk
      · simp only [kdM, updM_ne e]
    | _ => rfl
  | _ => rfl
theorem badAt_some {m : Int} : ∀ {ds : List DV} {i j : Nat} {d : DV}, (∀ (k : Nat) d, k < i → ds[k]? = some d → isRowD d m = true) → ds[i]? = some d → isRowD d m = false → badAt m ds j = some (j + i)
  | [], i, j, d, h, e, hb => by simp at e
  | x :: xs, 0, j, d, h, e, hb => by
    simp at e
    subst e
    unfold badAt
    rw [hb]
    rfl
  | x :: xs, i + 1, j, d, h, e, hb => by
    unfold badAt
    rw [if_pos (h 0 x (by omega) rfl), badAt_some (i := i) (fun k d hk he => h (k + 1) d (by omega) (by simpa using he)) (by simpa using e) hb]
    congr 1
    omega
theorem badAt_all {m : Int} : ∀ {ds : List DV} {j : Nat}, (∀ (k : Nat) d, k < ds.length → ds[k]? = some d → isRowD d m = true) → badAt m ds j = none
  | [], j, h => rfl
  | x :: xs, j, h => by
    unfold badAt
    rw [if_pos (h 0 x (by simp) rfl)]
    exact badAt_all fun k d hk he => h (k + 1) d (by simp; omega) (by simpa using he)
end DL
set_option Elab.async false
set_option linter.all false
set_option maxRecDepth 100000
set_option maxHeartbeats 2000000
namespace DL
open PySem PySem.Spec PyProof.Rows L2
section
variable {Z : Zn} {ρ : Ro} {M : Mu} {g : TG} {tt : TT} {te : TE} {Q2 : DQ} {d : DV} {Kp : Mu → Prop} {k : List DV → Mu → Prop}
theorem comp_mapT {α : Type} (e f : α → DV) : ∀ (xs : List α) (acc : List DV), acc.length + xs.length ≤ sizeLine →
    (∀ x ∈ xs, ∀ F k2, k2 (f x) M → WG (Z.fr F) g (e x) ρ M fun ρ2 M2 => WT (Z.fr F) tt ρ2 M2 fun b M3 => b = true ∧ WE (Z.fr F) te ρ2 M3 k2) → k (acc ++ xs.map f) M → Comp Z g tt te ρ k (xs.map e) acc M
  | [], acc, hz, h, q => by
    show k acc M
    simpa using q
  | x :: xs, acc, hz, h, q => by
    simp only [List.length_cons] at hz
    refine ⟨by omega, fun F => ?_⟩
    have := h x List.mem_cons_self F (fun y M4 => Comp Z g tt te ρ k (xs.map e) (acc ++ [y]) M4) (comp_mapT e f xs (acc ++ [f x]) (by simp; omega) (fun d' hd => h d' (List.mem_cons_of_mem _ hd)) (by simpa using q))
    intro G σ H v P s R E x n
    refine this G σ H v P s R E x fun ρ1 σ1 G1 M1 H1 s1 R1 E1 q1 => n ρ1 σ1 G1 M1 H1 s1 R1 E1 ?_
    exact q1.imp fun b M' ⟨hb, q⟩ => by rw [if_pos hb]; exact q
/-- with a test: p, a truth of the item -/
theorem comp_filT {α : Type} (e f : α → DV) (p : α → Bool) : ∀ (xs : List α) (acc : List DV), acc.length + xs.length ≤ sizeLine →
    (∀ x ∈ xs, ∀ F k2, (p x = true → k2 (f x) M) → WG (Z.fr F) g (e x) ρ M fun ρ2 M2 => WT (Z.fr F) tt ρ2 M2 fun b M3 => b = p x ∧ M3 = M ∧ (p x = true → WE (Z.fr F) te ρ2 M k2)) → k (acc ++ (xs.filter p).map f) M → Comp Z g tt te ρ k (xs.map e) acc M
  | [], acc, hz, h, q => by
    show k acc M
    simpa using q
  | x :: xs, acc, hz, h, q => by
    simp only [List.length_cons] at hz
    refine ⟨by omega, fun F => ?_⟩
    have := h x List.mem_cons_self F (fun y M4 => Comp Z g tt te ρ k (xs.map e) (acc ++ [y]) M4) (fun hp => comp_filT e f p xs (acc ++ [f x]) (by simp; omega) (fun d' hd => h d' (List.mem_cons_of_mem _ hd)) (by simpa [List.filter_cons, hp] using q))
    intro G σ H v P s R E y n
    refine this G σ H v P s R E y fun ρ1 σ1 G1 M1 H1 s1 R1 E1 q1 => n ρ1 σ1 G1 M1 H1 s1 R1 E1 ?_
    refine q1.imp fun b M' ⟨hb, hM, q2⟩ => ?_
    rw [hM]
    cases hp : p x with
    | true => rw [hb, hp]; exact q2 hp
    | false =>
      rw [hb, hp]
      exact comp_filT e f p xs acc (by omega) (fun d' hd => h d' (List.mem_cons_of_mem _ hd)) (by simpa [List.filter_cons, hp] using q)
theorem strs_vs (zs : List Str) : zs.map DV.s = (zs.map V.str).map DV.v := by simp [Function.comp_def]
theorem flat_strs (zs : List Str) : (zs.map V.str).all flatV = true := by simp [flatV]
theorem eqV_str (x y : Str) : eqV (.str x) (.str y) = decide (x = y) := by
  show (x == y) = decide (x = y)
  by_cases h : x = y
  · subst h; simp
  · rw [decide_eq_false h]; simpa using h
theorem inV_str {z : Str} {zs : List Str} : inV (.str z) (zs.map V.str) = decide (z ∈ zs) := by
  unfold inV
  induction zs with
  | nil => rfl
  | cons x xs ih =>
    rw [List.map_cons, List.any_cons, ih, eqV_str]
    by_cases h : x = z
    · subst h; simp
    · have h' : z ≠ x := fun e => h e.symm
      simp [h, h']
theorem wr_inS {z : Str} {zs : List Str} (l : LstOf M d (zs.map DV.s)) (h : Q2 (.b (decide (z ∈ zs))) M) : WR Z (rInA Z.W.K) (.s z) d M Q2 :=
  wr_inF (p := .str z) (xs := zs.map V.str) (.inl (by rw [← strs_vs]; exact l)) rfl (flat_strs zs) (by rw [inV_str]; exact h)
theorem wr_niS {z : Str} {zs : List Str} (l : LstOf M d (zs.map DV.s)) (h : Q2 (.b (!decide (z ∈ zs))) M) : WR Z (rNiA Z.W.K) (.s z) d M Q2 :=
  wr_niF (p := .str z) (xs := zs.map V.str) (.inl (by rw [← strs_vs]; exact l)) rfl (flat_strs zs) (by rw [inV_str]; exact h)
theorem wr_inSL {z : Str} {zs : List Str} (h : Q2 (.b (decide (z ∈ zs))) M) : WR Z (rInA Z.W.K) (.s z) (.lst (zs.map DV.s)) M Q2 := wr_inS (.inl rfl) h
theorem wr_niSL {z : Str} {zs : List Str} (h : Q2 (.b (!decide (z ∈ zs))) M) : WR Z (rNiA Z.W.K) (.s z) (.lst (zs.map DV.s)) M Q2 := wr_niS (.inl rfl) h
/-- the place of a name -/
def posS (z : Str) : List Str → Nat
  | [] => 0
  | x :: xs => if x = z then 0 else posS z xs + 1
theorem posS_get {z : Str} : ∀ {zs : List Str}, z ∈ zs → zs[posS z zs]? = some z
  | [], h => by simp at h
  | x :: xs, h => by
    unfold posS
    by_cases e : x = z
    · rw [if_pos e]; simp [e]
    · rw [if_neg e]
      have : z ∈ xs := by
        rcases List.mem_cons.mp h with h | h
        · exact absurd h.symm e
        · exact h
      simpa using posS_get this
theorem posS_lt {z : Str} {zs : List Str} (h : z ∈ zs) : posS z zs < zs.length := (List.getElem?_eq_some_iff.mp (posS_get h)).1
theorem posS_first {z : Str} : ∀ {zs : List Str} {m : Nat}, m < posS z zs → zs[m]? ≠ some z
  | [], m, h => by simp [posS] at h
  | x :: xs, m, h => by
    unfold posS at h
    by_cases e : x = z
    · rw [if_pos e] at h; omega
    · rw [if_neg e] at h
      cases m with
      | zero => simpa using e
      | succ m => simpa using posS_first (zs := xs) (m := m) (by omega)
theorem posS_eq {z : Str} {zs : List Str} {j : Nat} (hn : zs.Nodup) (h : zs[j]? = some z) : posS z zs = j := by
  have hz := List.mem_of_getElem? h
  exact (List.getElem?_inj (posS_lt hz) hn).mp ((posS_get hz).trans h.symm)
theorem wm_indexS {z : Str} {zs : List Str} (l : LstOf M d (zs.map DV.s)) (hz : z ∈ zs) (h : Q2 (.i (posS z zs : Nat)) M) : WM Z (rIndex Z.W.K) d [.s z] M Q2 :=
  wm_index (ys := zs.map V.str) (p := .str z) (z := .str z) (j := posS z zs) (by rw [← strs_vs]; exact l) rfl (flat_strs zs) (by rw [List.getElem?_map, posS_get hz]; rfl) (by rw [eqV_str]; exact decide_eq_true rfl) (fun m z' hm hz' => by
    rw [List.getElem?_map] at hz'
    cases e : zs[m]? with
    | none => rw [e] at hz'; cases hz'
    | some y =>
      rw [e] at hz'
      cases hz'
      rw [eqV_str]
      refine decide_eq_false fun e2 => ?_
      subst e2
      exact posS_first hm e) h
end
end DL
set_option Elab.async false
set_option linter.all false
set_option maxRecDepth 100000
set_option maxHeartbeats 2000000
namespace DL
open PySem PySem.Spec PyProof.Rows L2
section
variable {X : Cx} {CX : CXT} {k : Nat} {f C : Addr} {fd : FuncData} {ps : List Str} {sp : Sp} {dvs : List V} {vls : List Value} {EE : L2.St → XK} {x m : Str} {p pos apos : Pos} {e o : Expr} {es : List Expr} {ta : TE} {t : TA}
def tMethY (C : Addr) (m : Str) (sp : Sp) (dvs : List V) (EE : L2.St → XK) (ta : TE) (t : TA) : TE := fun σ H Q => ta σ H fun y H1 => ∃ b dx fs, y = .ref b ∧ H1 b = some (.ins C dx fs) ∧ fs.lookup m = none ∧ t σ H1 fun vs H2 => sp (.ref b :: (vs ++ dvs)) H2 Q (EE σ)
end
section
variable {Z : Zn} {ρ : Ro} {M : Mu} {tx : TA} {ta : TE} {Q2 : DQ} {sp2 : Sp2} {dvs : List V} {W2 : WX2} {Wx : WX}
theorem we_methY {C : Addr} {m : Str} (hw : WxOk Z W2 Wx) (h : WE Z ta ρ M fun d M1 => Obj M1 d C m ∧ WA Z tx ρ M1 fun es M2 => Ask (sp2 (d :: (es ++ dvs.map DV.v)) M2 Q2 (fun C ns es M' => W2 C ns es ρ M'))) :
    WE Z (tMethY C m (lift Z.W sp2) dvs (L2.WE Wx) ta tx) ρ M Q2 := fun G σ H Q s R E r =>
  h G σ H _ s R E fun d v G1 M1 H1 s1 R1 x ⟨⟨ns, ds, o, k⟩, q⟩ => by
    obtain ⟨b, dx, xs, e1, e2, e3, e4⟩ := obj_at R1 x o
    subst e1
    refine ⟨b, dx, _, rfl, e2, zip_none e4 k, q G1 σ H1 _ (s.trans s1) R1 (E.mono s1) fun es vs G2 M2 H2 s2 R2 xs q2 => ?_⟩
    refine ⟨G2, Z.F, _, M2, Q2, _, R2, datL_cons' (x.mono s2) (xs.append (datL_v dvs)), q2, r.mono (s1.trans s2), fun C ns es d' G' M' H' s' R' x' q' => ?_⟩
    exact hw C ns es d' ρ σ G' M' H' (((s.trans s1).trans s2).trans s') R' (E.mono ((s1.trans s2).trans s')) x' q'
theorem we_methY0 {C : Addr} {m : Str} (hw : WxOk Z W2 Wx) (h : WE Z ta ρ M fun d M1 => Obj M1 d C m ∧ WA Z tx ρ M1 fun es M2 => Ask (sp2 (d :: es) M2 Q2 (fun C ns es M' => W2 C ns es ρ M'))) :
    WE Z (tMethY C m (lift Z.W sp2) [] (L2.WE Wx) ta tx) ρ M Q2 := we_methY hw (h.imp fun d M1 q => ⟨q.1, q.2.imp fun es M2 q => by rw [List.map_nil, List.append_nil]; exact q⟩)
end
end DL
set_option Elab.async false
set_option linter.all false
set_option maxRecDepth 100000
set_option maxHeartbeats 2000000
namespace DL
open PySem PySem.Spec PyProof.Rows L2
theorem sIx_none0 {n : Nat} : HT.sIx n 0 none = 0 := rfl
theorem sIx_noneN {n : Nat} : HT.sIx n n none = n := rfl
theorem sIx_nat {n d k : Nat} : HT.sIx n d (some (k : Int)) = min k n := by
  unfold HT.sIx
  simp only
  split <;> omega
theorem sIx_neg {n d k : Nat} (h : 0 < k) : HT.sIx n d (some (-(k : Int))) = n - k := by
  unfold HT.sIx
  simp only
  split <;> omega
theorem cut_map {α β : Type} (f : α → β) (xs : List α) (lo hi : Option Int) : cutD (xs.map f) lo hi = (cutD xs lo hi).map f := by
  unfold cutD
  rw [List.length_map, ← List.map_drop, ← List.map_take]
theorem cut_toN {α : Type} (xs : List α) (k : Nat) : cutD xs none (some (k : Int)) = xs.take k := by
  unfold cutD
  rw [sIx_none0, sIx_nat, List.drop_zero, Nat.sub_zero]
  by_cases h : k ≤ xs.length
  · rw [Nat.min_eq_left h]
  · rw [Nat.min_eq_right (by omega), List.take_of_length_le (Nat.le_refl _), List.take_of_length_le (by omega)]
theorem cut_fromN {α : Type} (xs : List α) (k : Nat) : cutD xs (some (k : Int)) none = xs.drop k := by
  unfold cutD
  rw [sIx_nat, sIx_noneN]
  by_cases h : k ≤ xs.length
  · rw [Nat.min_eq_left h, List.take_of_length_le (by simp)]
  · rw [Nat.min_eq_right (by omega), List.drop_of_length_le (Nat.le_refl _), List.drop_of_length_le (by omega), List.take_nil]
theorem cut_midN {α : Type} (xs : List α) (j k : Nat) : cutD xs (some (j : Int)) (some (k : Int)) = (xs.take k).drop j := by
  unfold cutD
  rw [sIx_nat, sIx_nat]
  apply List.ext_getElem?
  intro i
  rw [List.getElem?_take, List.getElem?_drop, List.getElem?_drop, List.getElem?_take]
  by_cases h1 : i < min k xs.length - min j xs.length
  · rw [if_pos h1, if_pos (by omega), Nat.min_eq_left (by omega)]
  · rw [if_neg h1]
    split
    · rw [List.getElem?_eq_none (by omega)]
    · rfl
theorem cut_lastN {α : Type} (xs : List α) (k : Nat) (h : 0 < k) : cutD xs (some (-(k : Int))) none = xs.drop (xs.length - k) := by
  unfold cutD
  rw [sIx_neg h, sIx_noneN, List.take_of_length_le (by simp)]
section
variable {Z : Zn} {M : Mu} {Q2 : DQ} {α : Type} {f : α → DV} {xs ys : List α} {x y : α}
theorem wc_lenLM (h : Q2 (.i (xs.length : Nat)) M) : WC Z (orC (rLenQ Z.W.K) rLenT) [.lst (xs.map f)] M Q2 := wc_lenL (by rw [List.length_map]; exact h)
theorem wc_lenUM (h : Q2 (.i (xs.length : Nat)) M) : WC Z (orC (rLenQ Z.W.K) rLenT) [.tup (xs.map f)] M Q2 := wc_lenU (by rw [List.length_map]; exact h)
theorem wc_lenRM {q : Addr} (h : Q2 (.i (xs.length : Nat)) (updM M q (.lst (xs.map f)))) : WC Z (orC (rLenQ Z.W.K) rLenT) [.r q] (updM M q (.lst (xs.map f))) Q2 := wc_lenR (by rw [List.length_map]; exact h)
theorem wl_toN {k : Nat} (h : Q2 (.lst ((xs.take k).map f)) M) : WL Z (rSlA Z.W.K) (.lst (xs.map f)) none (some (k : Int)) M Q2 := wl_A (.inl rfl) (by rw [cut_map, cut_toN]; exact h)
theorem wl_toI {k : Int} (h0 : 0 ≤ k) (h : Q2 (.lst ((xs.take k.toNat).map f)) M) : WL Z (rSlA Z.W.K) (.lst (xs.map f)) none (some k) M Q2 := by
  obtain ⟨n, rfl⟩ := nat_of h0
  rw [Int.toNat_natCast] at h
  exact wl_toN h
theorem wl_fromN {k : Nat} (h : Q2 (.lst ((xs.drop k).map f)) M) : WL Z (rSlA Z.W.K) (.lst (xs.map f)) (some (k : Int)) none M Q2 := wl_A (.inl rfl) (by rw [cut_map, cut_fromN]; exact h)
theorem wl_fromI {k : Int} (h0 : 0 ≤ k) (h : Q2 (.lst ((xs.drop k.toNat).map f)) M) : WL Z (rSlA Z.W.K) (.lst (xs.map f)) (some k) none M Q2 := by
  obtain ⟨n, rfl⟩ := nat_of h0
  rw [Int.toNat_natCast] at h
  exact wl_fromN h
theorem wl_lastI {k : Int} (h0 : k < 0) (h : Q2 (.lst ((xs.drop (xs.length - (-k).toNat)).map f)) M) : WL Z (rSlA Z.W.K) (.lst (xs.map f)) (some k) none M Q2 := by
  obtain ⟨n, hn⟩ := nat_of (show 0 ≤ -k by omega)
  have e : k = -(n : Int) := by omega
  rw [hn, Int.toNat_natCast] at h
  rw [e]
  exact wl_A (.inl rfl) (by rw [cut_map, cut_lastN _ _ (by omega)]; exact h)
theorem wl_midI {j k : Int} (h0 : 0 ≤ j) (h1 : 0 ≤ k) (h : Q2 (.lst (((xs.take k.toNat).drop j.toNat).map f)) M) : WL Z (rSlA Z.W.K) (.lst (xs.map f)) (some j) (some k) M Q2 := by
  obtain ⟨n, rfl⟩ := nat_of h0
  obtain ⟨m, rfl⟩ := nat_of h1
  rw [Int.toNat_natCast, Int.toNat_natCast] at h
  exact wl_A (.inl rfl) (by rw [cut_map, cut_midN]; exact h)
theorem wr_addLM (hz : xs.length + ys.length ≤ 1000000) (h : Q2 (.lst ((xs ++ ys).map f)) M) : WR Z (rAddA Z.W.K) (.lst (xs.map f)) (.lst (ys.map f)) M Q2 := wr_addLn (by simpa using hz) (by rw [← List.map_append]; exact h)
theorem wr_addM1 (hz : xs.length + 1 ≤ 1000000) (h : Q2 (.lst ((xs ++ [x]).map f)) M) : WR Z (rAddA Z.W.K) (.lst (xs.map f)) (.lst [f x]) M Q2 := wr_addLn (by simpa using hz) (by rw [List.map_append] at h; exact h)
theorem wr_addM2 (hz : xs.length + 2 ≤ 1000000) (h : Q2 (.lst ((xs ++ [x, y]).map f)) M) : WR Z (rAddA Z.W.K) (.lst (xs.map f)) (.lst [f x, f y]) M Q2 := wr_addLn (by simpa using hz) (by rw [List.map_append] at h; exact h)
end
end DL
set_option Elab.async false
set_option linter.all false
set_option maxRecDepth 100000
set_option maxHeartbeats 2000000
namespace DL
open PySem PySem.Spec PyProof.Rows L2
section
variable {Z : Zn} {ρ : Ro} {M : Mu} {tk : TA} {ta : TE} {Q2 : DQ} {sp2 : Sp2} {E : XK} {E2 : XK2}
theorem wr_neRows {rows : List (List Int)} (h : Q2 (.b false) M) : WR Z (rNeA Z.W.K) (.lst (rows.map rowD)) (.lst (rows.map rowD)) M Q2 := wr_neLL (.inl rfl) (.inl rfl) goodL_rows (Nat.le_trans depL_rows (by decide)) h
theorem wr_eqRows {rows : List (List Int)} (h : Q2 (.b true) M) : WR Z (rEqA Z.W.K) (.lst (rows.map rowD)) (.lst (rows.map rowD)) M Q2 := wr_eqLL (.inl rfl) (.inl rfl) goodL_rows (Nat.le_trans depL_rows (by decide)) h
theorem wr_neStrs {zs : List Str} (hz : ∀ z ∈ zs, PyData.strOk z = true) (h : Q2 (.b false) M) : WR Z (rNeA Z.W.K) (.lst (zs.map DV.s)) (.lst (zs.map DV.s)) M Q2 := wr_neLL (.inl rfl) (.inl rfl) (goodL_strs hz) (by rw [depL_strs]; decide) h
theorem wr_eqStrs {zs : List Str} (hz : ∀ z ∈ zs, PyData.strOk z = true) (h : Q2 (.b true) M) : WR Z (rEqA Z.W.K) (.lst (zs.map DV.s)) (.lst (zs.map DV.s)) M Q2 := wr_eqLL (.inl rfl) (.inl rfl) (goodL_strs hz) (by rw [depL_strs]; decide) h
theorem wr_neStrR {q : Addr} {zs : List Str} (hz : ∀ z ∈ zs, PyData.strOk z = true) (h : Q2 (.b false) (updM M q (.lst (zs.map DV.s)))) : WR Z (rNeA Z.W.K) (.r q) (.lst (zs.map DV.s)) (updM M q (.lst (zs.map DV.s))) Q2 := wr_neLL ls_l1 (.inl rfl) (goodL_strs hz) (by rw [depL_strs]; decide) h
theorem ws_frzL {ts : TS} {D2 : Ends2} {ds : List DV} (i : Nat) {b : Addr} (hi : ρ[i]? = some (some (.r b))) (hm : M b = some (.lst ds)) (h : WS Z ts D2 (ρ.set i (some (.lst ds))) (delM M b)) : WS Z ts D2 ρ M := ws_frz i hi hm trivial h
end
end DL
set_option Elab.async false
set_option linter.all false
set_option maxRecDepth 100000
set_option maxHeartbeats 2000000
namespace DL
open PySem PySem.Spec PyProof.Rows L2
def lV : Leaf → V
  | .none => .non
  | .num i => .int i
  | .text z => .str z
theorem lV_is {P : Program} {w : World} {k : Leaf} {u : Value} (r : RelV (lV k) u) : (leafKind P w).is k u = true := by
  cases k with
  | none => cases (show u = Value.none from r); rfl
  | num i => obtain ⟨t, rfl⟩ := r; show (i == i) = true; simp
  | text z => obtain ⟨t, rfl⟩ := r; show (z == z) = true; simp
section
variable {X : Cx} {pins : List (Addr × PySem.Obj)} {σ : L2.St} {H : Hp} {s : Shared} {a : Addr} {kvs : List (Leaf × V)}
theorem lf_of {W : Wd} (hP : W.P = X.prog) (hw : W.w = X.w) (I : Inv X pins σ H s) (e : H a = some (leafO W a kvs)) : kvs.length ≤ sizeLine ∧ (a == sysModules) = false ∧ ∃ us, KV kvs us ∧ s.heap.DictOf (leafKind X.prog X.w) a us := by
  have h := (I.hok a _ e).1
  rw [hP, hw] at h
  exact h
theorem lf_new {W : Wd} (hP : W.P = X.prog) (hw : W.w = X.w) {H' : Hp} {h' : Heap} {us : List (Leaf × Value)} (z : kvs.length ≤ sizeLine) (hd : (a == sysModules) = false) (rel : KV kvs us) (dd : h'.DictOf (leafKind X.prog X.w) a us) :
    ObjOk X.prog X.w H' h' a (leafO W a kvs) := by
  refine ⟨?_, let ⟨q, _, _, hq, _⟩ := dd; ⟨q, hq⟩, fun h1 h2 ⟨g1, g2, vs, g3, g4⟩ k => ⟨g1, g2, vs, g3, g4.at k⟩⟩
  show kvs.length ≤ sizeLine ∧ (a == sysModules) = false ∧ ∃ us, KV kvs us ∧ h'.DictOf (leafKind W.P W.w) a us
  rw [hP, hw]
  exact ⟨z, hd, us, rel, dd⟩
end
def rIxF (W : Wd) : R2 := fun x y H Q => ∃ a kvs k v, x = .ref a ∧ H a = some (leafO W a kvs) ∧ y = lV k ∧ valV kvs k = some v ∧ Q v H
theorem ix_leaf {X : Cx} {W : Wd} (hP : W.P = X.prog) (hw : W.w = X.w) : IxR X (rIxF W) := by
  intro value slice pins s σ H x y v u Q I rx ry h hs
  obtain ⟨a, kvs, k, z, rfl, e, rfl, l, q⟩ := h
  cases rx
  obtain ⟨_, hd, us, rel, dd⟩ := lf_of hP hw I e
  obtain ⟨w', hw', rw'⟩ := RelO.some_of (v := z) (o := valueAt us k) (by rw [← l]; exact rel.val k)
  exact tail_any dd.typeIs PySem.F.slot_dict_getitem.lookup (wpAny_getItem_of (lV_is ry) dd.mapOf hw' ⟨z, H, I.tok _, rw', q⟩) hs
end DL
set_option Elab.async false
set_option linter.all false
set_option maxRecDepth 100000
set_option maxHeartbeats 2000000
namespace DL
open PySem PySem.Spec PyProof.Rows L2
abbrev KVs := List (Leaf × DV)
abbrev dlD (kvs : KVs) : DV := .dl (kvs.map (·.1)) (kvs.map (·.2))
abbrev dlM (kvs : KVs) : MO := .dl (kvs.map (·.1)) (kvs.map (·.2))
def lD : Leaf → DV
  | .none => .n
  | .num i => .i i
  | .text z => .s z
theorem lD_v (k : Leaf) : lD k = .v (lV k) := by cases k <;> rfl
/-- what stands at a key; put at a key -/
def valL (kvs : KVs) (k : Leaf) : Option DV := (kvs.find? fun kv => decide (kv.1 = k)).map (·.2)
def putL (kvs : KVs) (k : Leaf) (d : DV) : KVs := if (kvs.any fun kv => decide (kv.1 = k)) = true then kvs.map (fun kv => if kv.1 = k then (kv.1, d) else kv) else kvs ++ [(k, d)]
theorem valL_pos {p : Leaf × DV} {r : KVs} {k : Leaf} (e : p.1 = k) : valL (p :: r) k = some p.2 := by simp [valL, List.find?_cons, e]
theorem valL_neg {p : Leaf × DV} {r : KVs} {k : Leaf} (e : ¬ p.1 = k) : valL (p :: r) k = valL r k := by simp [valL, List.find?_cons, e]
theorem valL_any (k : Leaf) : ∀ kvs : KVs, (kvs.any fun kv => decide (kv.1 = k)) = (valL kvs k).isSome
  | [] => rfl
  | p :: r => by
    rw [List.any_cons, valL_any k r]
    by_cases e : p.1 = k
    · rw [valL_pos e]; simp [e]
    · rw [valL_neg e]; simp [e]
section
variable {W : Wd} {G G' F : Hp}
inductive KD (W : Wd) (G : Hp) : KVs → List (Leaf × V) → Prop
  | nil : KD W G [] []
  | cons {k : Leaf} {d : DV} {v : V} {ps : KVs} {qs : List (Leaf × V)} (h : Dat W G d v) (t : KD W G ps qs) : KD W G ((k, d) :: ps) ((k, v) :: qs)
theorem KD.of : ∀ {kvs : KVs} {xs : List V}, DatL W G (kvs.map (·.2)) xs → KD W G kvs ((kvs.map (·.1)).zip xs)
  | [], xs, h => by rw [datL_nil.mp h]; exact .nil
  | (k, d) :: kvs, xs, h => by
    obtain ⟨y, r, rfl, h1, h2⟩ := datL_cons.mp h
    exact .cons h1 (KD.of h2)
theorem KD.back : ∀ {kvs : KVs} {qs : List (Leaf × V)}, KD W G kvs qs → ∃ xs, qs = (kvs.map (·.1)).zip xs ∧ DatL W G (kvs.map (·.2)) xs
  | _, _, .nil => ⟨[], rfl, datL_nil'⟩
  | _, _, .cons (v := v) h t => by
    obtain ⟨xs, e, q⟩ := KD.back t
    exact ⟨v :: xs, by rw [e]; rfl, datL_cons' h q⟩
theorem KD.length : ∀ {kvs : KVs} {qs : List (Leaf × V)}, KD W G kvs qs → qs.length = kvs.length
  | _, _, .nil => rfl
  | _, _, .cons h t => by rw [List.length_cons, List.length_cons, KD.length t]
theorem KD.val {k : Leaf} : ∀ {kvs : KVs} {qs : List (Leaf × V)}, KD W G kvs qs → (∀ d, valL kvs k = some d → ∃ v, valV qs k = some v ∧ Dat W G d v) ∧ (valV qs k).isSome = (valL kvs k).isSome
  | _, _, .nil => ⟨fun d h => (by cases h), rfl⟩
  | _, _, .cons (k := k') (d := d') (v := v') (ps := ps) (qs := qs) h t => by
    obtain ⟨h1, h2⟩ := KD.val (k := k) t
    by_cases e : k' = k
    · rw [valL_pos (p := (k', d')) e, valV_pos (p := (k', v')) e]
      exact ⟨fun d hd => by cases hd; exact ⟨v', rfl, h⟩, rfl⟩
    · rw [valL_neg (p := (k', d')) e, valV_neg (p := (k', v')) e]
      exact ⟨h1, h2⟩
theorem KD.repl {k : Leaf} {d : DV} {v : V} (hd : Dat W G d v) : ∀ {kvs : KVs} {qs : List (Leaf × V)}, KD W G kvs qs → KD W G (kvs.map fun kv => if kv.1 = k then (kv.1, d) else kv) (qs.map fun kv => if kv.1 = k then (kv.1, v) else kv)
  | _, _, .nil => .nil
  | _, _, .cons (k := k') h t => by
    rw [List.map_cons, List.map_cons]
    by_cases e : k' = k
    · simp only [e, if_true]
      exact .cons hd (KD.repl hd t)
    · simp only [e, if_false]
      exact .cons h (KD.repl hd t)
theorem KD.snoc {k : Leaf} {d : DV} {v : V} (hd : Dat W G d v) : ∀ {kvs : KVs} {qs : List (Leaf × V)}, KD W G kvs qs → KD W G (kvs ++ [(k, d)]) (qs ++ [(k, v)])
  | _, _, .nil => .cons hd .nil
  | _, _, .cons h t => .cons h (KD.snoc hd t)
theorem KD.put {k : Leaf} {d : DV} {v : V} {kvs : KVs} {qs : List (Leaf × V)} (r : KD W G kvs qs) (hd : Dat W G d v) : KD W G (putL kvs k d) (putK qs k v) := by
  have h := (r.val (k := k)).2
  rw [← valL_any, ← valV_any] at h
  unfold putL putK
  rw [h]
  split
  · exact r.repl hd
  · exact r.snoc hd
theorem KD.mono (e : Same G G') : ∀ {kvs : KVs} {qs : List (Leaf × V)}, KD W G kvs qs → KD W G' kvs qs
  | _, _, .nil => .nil
  | _, _, .cons h t => .cons (h.mono e) (KD.mono e t)
end
/-- a dict at hand -/
def DlOf (M : Mu) (d : DV) (kvs : KVs) : Prop := d = dlD kvs ∨ ∃ a, d = .r a ∧ M a = some (dlM kvs)
section
variable {W : Wd} {Z : Zn} {G G' F : Hp} {ρ : Ro} {M : Mu} {H : Hp} {Q2 : DQ} {d e x y : DV} {v : V} {kvs : KVs}
theorem dl_at (R : Rep W G M F H) (h : Dat W G d v) (l : DlOf M d kvs) : ∃ a qs, v = .ref a ∧ H a = some (leafO W a qs) ∧ KD W G kvs qs := by
  rcases l with rfl | ⟨a, rfl, hm⟩
  · obtain ⟨a, xs, h1, h2, h3, h4⟩ := dat_dl.mp h
    exact ⟨a, _, h1, R.ex _ _ h2, KD.of h4⟩
  · obtain ⟨xs, h1, h2, h3⟩ := (R.mu a _ hm).2
    exact ⟨a, _, dat_v.mp h, h1, KD.of h3⟩
theorem wr_ixF {k : Leaf} (l : DlOf M x kvs) (hv : valL kvs k = some e) (h : Q2 e M) : WR Z (rIxF Z.W) x (lD k) M Q2 := fun G H vx vy Q s R dx dy r => by
  obtain ⟨a, qs, e1, e2, e3⟩ := dl_at R dx l
  obtain ⟨v, h1, h2⟩ := (e3.val (k := k)).1 e hv
  rw [lD_v] at dy
  exact ⟨a, qs, k, v, e1, e2, dat_v.mp dy, h1, r _ _ G M H (Same.refl G) R h2 h⟩
end
end DL
set_option Elab.async false
set_option linter.all false
set_option maxRecDepth 100000
set_option maxHeartbeats 2000000
namespace DL
open PySem PySem.Spec PyProof.Rows L2
end DL
set_option Elab.async false
set_option linter.all false
set_option maxRecDepth 100000
set_option maxHeartbeats 2000000
namespace DL
open PySem PySem.Spec PyProof.Rows L2
inductive DatP (W : Wd) (G : Hp) : List (DV × DV) → List (V × V) → Prop
  | nil : DatP W G [] []
  | cons {d e : DV} {v u : V} {ps : List (DV × DV)} {qs : List (V × V)} (h1 : Dat W G d v) (h2 : Dat W G e u) (t : DatP W G ps qs) : DatP W G ((d, e) :: ps) ((v, u) :: qs)
theorem DatP.mono {W : Wd} {G G' : Hp} (s : Same G G') : ∀ {ps : List (DV × DV)} {qs : List (V × V)}, DatP W G ps qs → DatP W G' ps qs
  | _, _, .nil => .nil
  | _, _, .cons h1 h2 t => .cons (h1.mono s) (h2.mono s) (DatP.mono s t)
end DL
set_option Elab.async false
set_option linter.all false
set_option maxRecDepth 100000
set_option maxHeartbeats 2000000
namespace DL
open PySem PySem.Spec PyProof.Rows L2
end DL
set_option Elab.async false
set_option linter.all false
set_option maxRecDepth 100000
set_option maxHeartbeats 2000000
namespace DL
open PySem PySem.Spec PyProof.Rows L2
end DL
set_option Elab.async false
set_option linter.all false
set_option maxRecDepth 100000
set_option maxHeartbeats 2000000
namespace DL
open PySem PySem.Spec PyProof.Rows L2
end DL
set_option Elab.async false
set_option linter.all false
set_option maxRecDepth 100000
set_option maxHeartbeats 2000000
namespace DL
open PySem PySem.Spec PyProof.Rows L2
theorem MLe.of {M M' : Mu} (h : ∀ q, M' q = none ∨ M q = M' q) : MLe M M' := fun q => by
  rcases h q with e | e
  · rw [e]; exact .drop
  · rw [e]; exact .rf
structure Kid where
  key : Leaf
  at_ : Addr
  ds : List DV
def kidsR (b : List Kid) : KVs := b.map fun e => (e.key, .r e.at_)
def kidsF (b : List Kid) : KVs := b.map fun e => (e.key, .lst e.ds)
structure TCells (M M0 : Mu) (x o k C : Addr) (ns : List Str) (ovs : KVs) (b : List Kid) : Prop where
  hx : M x = some (.ins C ns [.r o, .r k])
  ho : M o = some (dlM ovs)
  hk : M k = some (dlM (kidsR b))
  hb : ∀ e ∈ b, M e.at_ = some (.lst e.ds)
  out : ∀ q, q ≠ x → q ≠ o → q ≠ k → (∀ e ∈ b, q ≠ e.at_) → M q = M0 q
  fo : M0 o = none
  fk : M0 k = none
  fb : ∀ e ∈ b, M0 e.at_ = none
  ox : o ≠ x
  kx : k ≠ x
  ok : o ≠ k
  bx : ∀ e ∈ b, e.at_ ≠ x ∧ e.at_ ≠ o ∧ e.at_ ≠ k
  dis : b.Pairwise fun e f => e.at_ ≠ f.at_
section
variable {W : Wd} {Z : Zn} {G F H : Hp} {ρ : Ro} {M M0 : Mu} {x o k C : Addr} {ns : List Str} {ovs : KVs} {b : List Kid}
def inB (o k : Addr) (b : List Kid) (q : Addr) : Bool := decide (q = o) || (decide (q = k) || b.any fun e => decide (q = e.at_))
theorem inB_o : inB o k b o = true := by simp [inB]
theorem inB_k : inB o k b k = true := by simp [inB]
theorem inB_b {e : Kid} (h : e ∈ b) : inB o k b e.at_ = true := by
  simp only [inB, Bool.or_eq_true, decide_eq_true_eq, List.any_eq_true]
  exact .inr (.inr ⟨e, h, rfl⟩)
theorem inB_of {q : Addr} (h : inB o k b q = true) : q = o ∨ q = k ∨ ∃ e ∈ b, q = e.at_ := by
  simpa [inB] using h
theorem inB_no {q : Addr} (h : inB o k b q = false) : q ≠ o ∧ q ≠ k ∧ ∀ e ∈ b, q ≠ e.at_ := by
  refine ⟨fun e => ?_, fun e => ?_, fun e he e' => ?_⟩
  · rw [e, inB_o] at h; cases h
  · rw [e, inB_k] at h; cases h
  · rw [e', inB_b he] at h; cases h
theorem TCells.inM (c : TCells M M0 x o k C ns ovs b) {q : Addr} (h : inB o k b q = true) : (∃ mo, M q = some mo) ∧ M0 q = none ∧ q ≠ x := by
  rcases inB_of h with rfl | rfl | ⟨e, he, rfl⟩
  · exact ⟨⟨_, c.ho⟩, c.fo, c.ox⟩
  · exact ⟨⟨_, c.hk⟩, c.fk, c.kx⟩
  · exact ⟨⟨_, c.hb e he⟩, c.fb e he, (c.bx e he).1⟩
theorem datL_refs {α : Type} {f : α → Addr} : ∀ {l : List α} {xs : List V}, DatL W G (l.map fun e => DV.r (f e)) xs → xs = l.map fun e => V.ref (f e)
  | [], xs, h => datL_nil.mp h
  | e :: l, xs, h => by
    obtain ⟨y, r, rfl, h1, h2⟩ := datL_cons.mp h
    rw [dat_v.mp h1, datL_refs h2]
    rfl
theorem TCells.freeze (c : TCells M M0 x o k C ns ovs b) (hn : ns.length = 2) (R : Rep W G M F H) : ∃ G', Same G G' ∧ Rep W G' (updM M0 x (.ins C ns [dlD ovs, dlD (kidsF b)])) F H := by
  refine ⟨fun q => if inB o k b q = true then H q else G q, ?_, ?_⟩
  · have hs : Same G (fun q => if inB o k b q = true then H q else G q) := fun q u hq => by
      show (if inB o k b q = true then H q else G q) = some u
      by_cases e : inB o k b q = true
      · obtain ⟨⟨mo, hm⟩, _⟩ := c.inM e
        rw [(R.mu q mo hm).1] at hq
        cases hq
      · rw [if_neg e]; exact hq
    exact hs
  · have hs : Same G (fun q => if inB o k b q = true then H q else G q) := fun q u hq => by
      show (if inB o k b q = true then H q else G q) = some u
      by_cases e : inB o k b q = true
      · obtain ⟨⟨mo, hm⟩, _⟩ := c.inM e
        rw [(R.mu q mo hm).1] at hq
        cases hq
      · rw [if_neg e]; exact hq
    refine ⟨fun q u hq => ?_, R.fr, fun q u hq => ?_, fun q mo hq => ?_⟩
    · replace hq : (if inB o k b q = true then H q else G q) = some u := hq
      by_cases e : inB o k b q = true
      · rw [if_pos e] at hq; exact hq
      · rw [if_neg e] at hq; exact R.ex q u hq
    · obtain ⟨h1, h2⟩ := R.fd q u hq
      have hn' : inB o k b q = false := by
        cases e : inB o k b q with
        | false => rfl
        | true =>
          obtain ⟨⟨mo, hm⟩, _⟩ := c.inM e
          rw [hm] at h2
          cases h2
      have hqx : q ≠ x := fun e => by rw [e, c.hx] at h2; cases h2
      obtain ⟨a1, a2, a3⟩ := inB_no hn'
      refine ⟨?_, ?_⟩
      · show (if inB o k b q = true then H q else G q) = none
        rw [hn', if_neg Bool.false_ne_true]; exact h1
      · rw [updM_ne hqx, ← c.out q hqx a1 a2 a3]; exact h2
    · by_cases e : q = x
      · subst e
        rw [updM_same] at hq
        cases hq
        obtain ⟨g0, dx, xs, hH, hl, hd⟩ := R.mu _ _ c.hx
        have hxn : inB o k b q = false := by
          cases e : inB o k b q with
          | false => rfl
          | true => exact absurd rfl (c.inM e).2.2
        refine ⟨?_, dx, xs, hH, hn, ?_⟩
        · show (if inB o k b q = true then H q else G q) = none
          rw [hxn, if_neg Bool.false_ne_true]; exact g0
        · obtain ⟨y1, r1, rfl, d1, hd⟩ := datL_cons.mp hd
          obtain ⟨y2, r2, rfl, d2, hd⟩ := datL_cons.mp hd
          rw [datL_nil.mp hd]
          refine datL_cons' ?_ (datL_cons' ?_ datL_nil')
          · obtain ⟨_, zs, hz, hzl, hzd⟩ := R.mu _ _ c.ho
            refine dat_dl.mpr ⟨o, zs, dat_v.mp d1, ?_, hzl, hzd.mono hs⟩
            show (if inB o k b o = true then H o else G o) = _
            rw [inB_o, if_pos rfl]; exact hz
          · obtain ⟨_, zs, hz, hzl, hzd⟩ := R.mu _ _ c.hk
            have ez : zs = b.map fun e => V.ref e.at_ := datL_refs (f := Kid.at_) (by rw [show (b.map fun e => DV.r e.at_) = (kidsR b).map (·.2) by simp [kidsR, Function.comp_def]]; exact hzd)
            refine dat_dl.mpr ⟨k, zs, dat_v.mp d2, ?_, by simp [kidsF], ?_⟩
            · show (if inB o k b k = true then H k else G k) = _
              rw [inB_k, if_pos rfl, hz]
              have : (kidsR b).map (·.1) = (kidsF b).map (·.1) := by simp [kidsR, kidsF, Function.comp_def]
              rw [this]
            · rw [ez]
              have key : ∀ l : List Kid, (∀ e ∈ l, e ∈ b) → DatL W (fun q => if inB o k b q = true then H q else G q) ((kidsF l).map (·.2)) (l.map fun e => V.ref e.at_) := by
                intro l
                induction l with
                | nil => intro _; exact datL_nil'
                | cons e l ih =>
                  intro hm
                  refine datL_cons' ?_ (ih fun f hf => hm f (List.mem_cons_of_mem _ hf))
                  have he := hm e List.mem_cons_self
                  obtain ⟨_, ys, hy, hyd⟩ := R.mu _ _ (c.hb e he)
                  refine dat_lst.mpr ⟨e.at_, ys, rfl, ?_, hyd.mono hs⟩
                  show (if inB o k b e.at_ = true then H e.at_ else G e.at_) = _
                  rw [inB_b he, if_pos rfl]; exact hy
              exact key b fun _ h => h
      · rw [updM_ne e] at hq
        have hn' : inB o k b q = false := by
          cases e' : inB o k b q with
          | false => rfl
          | true => rw [(c.inM e').2.1] at hq; cases hq
        obtain ⟨a1, a2, a3⟩ := inB_no hn'
        rw [← c.out q e a1 a2 a3] at hq
        obtain ⟨g0, hm⟩ := R.mu q mo hq
        refine ⟨?_, hm.mono hs⟩
        show (if inB o k b q = true then H q else G q) = none
        rw [hn', if_neg Bool.false_ne_true]; exact g0
end
end DL
set_option Elab.async false
set_option linter.all false
set_option maxRecDepth 100000
set_option maxHeartbeats 2000000
namespace DL
open PySem PySem.Spec PyProof.Rows L2
abbrev Prs := List (Str × Option Str)
def kidsOf (ps : Prs) (o : Option Str) : List Str := (ps.filter fun p => decide (p.2 = o)).map (·.1)
def namesOf (ps : Prs) : List Str := ps.map (·.1)
structure okPair (told : List Str) (p : Str × Option Str) : Prop where
  nm : nameB p.1 = true
  new : p.1 ∉ told
  ov : ∀ c, p.2 = some c → c ∈ told
def TrF : List Str → Prs → Prop
  | _, [] => True
  | told, p :: r => okPair told p ∧ TrF (told ++ [p.1]) r
structure Tr (ps : Prs) : Prop where
  len : ps.length ≤ 8
  ok : TrF [] ps
theorem TrF.get : ∀ {ps : Prs} {told : List Str} {i : Nat} {p : Str × Option Str}, TrF told ps → ps[i]? = some p → okPair (told ++ namesOf (ps.take i)) p
  | [], told, i, p, h, e => by simp at e
  | q :: ps, told, 0, p, h, e => by
    simp at e
    subst e
    simpa [namesOf] using h.1
  | q :: ps, told, i + 1, p, h, e => by
    have := TrF.get h.2 (i := i) (by simpa using e)
    simpa [namesOf] using this
theorem TrF.of : ∀ {ps : Prs} {told : List Str}, (∀ (i : Nat) p, ps[i]? = some p → okPair (told ++ namesOf (ps.take i)) p) → TrF told ps
  | [], told, h => trivial
  | q :: ps, told, h => ⟨by simpa [namesOf] using h 0 q rfl, TrF.of fun i p e => by simpa [namesOf] using h (i + 1) p (by simpa using e)⟩
theorem TrF.nodup : ∀ {ps : Prs} {told : List Str}, TrF told ps → told.Nodup → (told ++ namesOf ps).Nodup
  | [], told, h, hn => by simpa [namesOf] using hn
  | q :: ps, told, h, hn => by
    have := TrF.nodup h.2 (by
      rw [List.nodup_append]
      refine ⟨hn, by simp, ?_⟩
      intro a ha b hb e
      simp at hb
      subst hb e
      exact h.1.new ha)
    simpa [namesOf] using this
section
variable {ps : Prs}
theorem Tr.nodup (t : Tr ps) : (namesOf ps).Nodup := by simpa using t.ok.nodup List.nodup_nil
theorem Tr.pair (t : Tr ps) {i : Nat} {p : Str × Option Str} (h : ps[i]? = some p) : okPair (namesOf (ps.take i)) p := by simpa using t.ok.get h
theorem Tr.name (t : Tr ps) {c : Str} (h : c ∈ namesOf ps) : nameB c = true := by
  obtain ⟨p, hp, rfl⟩ := List.mem_map.mp h
  obtain ⟨i, hi⟩ := List.getElem?_of_mem hp
  exact (t.pair hi).nm
theorem Tr.take (t : Tr ps) (n : Nat) : Tr (ps.take n) := ⟨by rw [List.length_take]; have := t.len; omega, TrF.of fun i p e => by
  have hi : i < n := by
    have := (List.getElem?_eq_some_iff.mp e).1
    rw [List.length_take] at this
    omega
  rw [List.getElem?_take_of_lt hi] at e
  have := t.pair e
  rw [List.take_take, Nat.min_eq_left (by omega)]
  simpa using this⟩
theorem names_len : (namesOf ps).length = ps.length := by simp [namesOf]
theorem names_get {i : Nat} {p : Str × Option Str} (h : ps[i]? = some p) : (namesOf ps)[i]? = some p.1 := by simp [namesOf, h]
theorem mem_kids {o : Option Str} {c : Str} : c ∈ kidsOf ps o ↔ (c, o) ∈ ps := by
  simp only [kidsOf, List.mem_map, List.mem_filter, decide_eq_true_eq]
  constructor
  · rintro ⟨⟨c', o'⟩, ⟨h1, rfl⟩, rfl⟩; exact h1
  · intro h; exact ⟨(c, o), ⟨h, rfl⟩, rfl⟩
theorem kids_names {o : Option Str} {c : Str} (h : c ∈ kidsOf ps o) : c ∈ namesOf ps := List.mem_map.mpr ⟨_, mem_kids.mp h, rfl⟩
/-- how far a column stands from the end -/
def rk (ps : Prs) : Option Str → Nat
  | none => ps.length
  | some c => ps.length - 1 - posS c (namesOf ps)
theorem rk_kid (t : Tr ps) {o : Option Str} {c : Str} (h : c ∈ kidsOf ps o) : rk ps (some c) < rk ps o := by
  have hc := kids_names h
  obtain ⟨i, hi⟩ := List.getElem?_of_mem (mem_kids.mp h)
  have ei : posS c (namesOf ps) = i := posS_eq t.nodup (names_get hi)
  have li : i < ps.length := (List.getElem?_eq_some_iff.mp hi).1
  cases o with
  | none =>
    show ps.length - 1 - posS c (namesOf ps) < ps.length
    omega
  | some d =>
    have hd := (t.pair hi).ov d rfl
    obtain ⟨j, hj⟩ := List.getElem?_of_mem hd
    have hj' : (namesOf (ps.take i))[j]? = some d := hj
    have lj : j < i := by
      have := (List.getElem?_eq_some_iff.mp hj').1
      rw [names_len, List.length_take] at this
      omega
    have hj2 : (namesOf ps)[j]? = some d := by
      rw [show namesOf (ps.take i) = (namesOf ps).take i by simp [namesOf], List.getElem?_take_of_lt lj] at hj'
      exact hj'
    have ej : posS d (namesOf ps) = j := posS_eq t.nodup hj2
    show ps.length - 1 - posS c (namesOf ps) < ps.length - 1 - posS d (namesOf ps)
    omega
def ordF (ps : Prs) : Nat → Option Str → List Str
  | 0, _ => []
  | n + 1, o => (kidsOf ps o).flatMap fun c => c :: ordF ps n (some c)
theorem flatMap_congr' {α β : Type} {f g : α → List β} : ∀ {l : List α}, (∀ x ∈ l, f x = g x) → l.flatMap f = l.flatMap g
  | [], h => rfl
  | x :: l, h => by
    rw [List.flatMap_cons, List.flatMap_cons, h x List.mem_cons_self, flatMap_congr' fun y hy => h y (List.mem_cons_of_mem _ hy)]
theorem ordF_stab (t : Tr ps) : ∀ (n : Nat) (o : Option Str), rk ps o ≤ n → ordF ps n o = ordF ps (n + 1) o
  | 0, o, h => by
    have : kidsOf ps o = [] := by
      cases e : kidsOf ps o with
      | nil => rfl
      | cons c l =>
        have := rk_kid t (o := o) (c := c) (by rw [e]; exact List.mem_cons_self)
        omega
    show [] = (kidsOf ps o).flatMap fun c => c :: ordF ps 0 (some c)
    rw [this]
    rfl
  | n + 1, o, h => by
    show ((kidsOf ps o).flatMap fun c => c :: ordF ps n (some c)) = (kidsOf ps o).flatMap fun c => c :: ordF ps (n + 1) (some c)
    refine flatMap_congr' fun c hc => ?_
    rw [ordF_stab t n (some c) (by have := rk_kid t hc; omega)]
theorem ordF_more (t : Tr ps) {n m : Nat} {o : Option Str} (h : rk ps o ≤ n) (hm : n ≤ m) : ordF ps m o = ordF ps n o := by
  obtain ⟨k, rfl⟩ := Nat.le.dest hm
  clear hm
  induction k with
  | zero => rfl
  | succ k ih => rw [← ih, ← Nat.add_assoc]; exact (ordF_stab t (n + k) o (by omega)).symm
def ord (ps : Prs) (o : Option Str) : List Str := ordF ps ps.length o
theorem rk_le (o : Option Str) : rk ps o ≤ ps.length := by
  cases o with
  | none => exact Nat.le_refl _
  | some c => show ps.length - 1 - posS c (namesOf ps) ≤ ps.length; omega
theorem ord_eq (t : Tr ps) (o : Option Str) : ord ps o = (kidsOf ps o).flatMap fun c => c :: ord ps (some c) := by
  unfold ord
  rw [← ordF_more t (rk_le o) (Nat.le_succ _)]
  rfl
end
end DL
set_option Elab.async false
set_option linter.all false
set_option maxRecDepth 100000
set_option maxHeartbeats 2000000
namespace DL
open PySem PySem.Spec PyProof.Rows L2
def optD : Option Str → DV
  | none => .n
  | some c => .s c
abbrev namesD (zs : List Str) : DV := .lst (zs.map DV.s)
def ovsOf (ps : Prs) : KVs := ps.map fun p => (.text p.1, optD p.2)
section
variable {ps : Prs}
def overOf (ps : Prs) (c : Str) : Option Str := ((ps.find? fun p => decide (p.1 = c)).map (·.2)).getD none
theorem overOf_cons_pos {p : Str × Option Str} {r : Prs} {c : Str} (e : p.1 = c) : overOf (p :: r) c = p.2 := by simp [overOf, List.find?_cons, e]
theorem overOf_cons_neg {p : Str × Option Str} {r : Prs} {c : Str} (e : ¬ p.1 = c) : overOf (p :: r) c = overOf r c := by simp [overOf, List.find?_cons, e]
theorem overOf_mem : ∀ {ps : Prs} {c : Str} {o : Option Str}, (namesOf ps).Nodup → (c, o) ∈ ps → overOf ps c = o
  | [], c, o, hn, h => by cases h
  | p :: r, c, o, hn, h => by
    rw [namesOf, List.map_cons, List.nodup_cons] at hn
    by_cases e : p.1 = c
    · rw [overOf_cons_pos e]
      rcases List.mem_cons.mp h with h | h
      · rw [← h]
      · exact absurd (List.mem_map.mpr ⟨_, h, rfl⟩) (by rw [← e]; exact hn.1)
    · rw [overOf_cons_neg e]
      rcases List.mem_cons.mp h with h | h
      · rw [← h] at e; exact absurd rfl e
      · exact overOf_mem hn.2 h
theorem overOf_in : ∀ {ps : Prs} {c : Str}, c ∈ namesOf ps → (c, overOf ps c) ∈ ps
  | [], c, h => by cases h
  | p :: r, c, h => by
    by_cases e : p.1 = c
    · rw [overOf_cons_pos e, ← e]; exact List.mem_cons_self
    · rw [overOf_cons_neg e]
      refine List.mem_cons_of_mem _ (overOf_in ?_)
      rcases List.mem_cons.mp h with h | h
      · exact absurd h.symm e
      · exact h
end
section
variable {Z : Zn} {ρ : Ro} {M : Mu} {Q2 : DQ} {kvs : KVs} {e : DV}
theorem wr_ixS' {c : Str} (hv : valL kvs (.text c) = some e) (h : Q2 e M) : WR Z (rIxF Z.W) (dlD kvs) (.s c) M Q2 := wr_ixF (k := .text c) (.inl rfl) hv h
end
end DL
set_option Elab.async false
set_option linter.all false
set_option maxRecDepth 100000
set_option maxHeartbeats 2000000
namespace DL
open PySem PySem.Spec PyProof.Rows L2
theorem len_sub {α : Type} [DecidableEq α] : ∀ {l m : List α}, l.Nodup → (∀ x ∈ l, x ∈ m) → l.length ≤ m.length
  | [], m, h, hs => Nat.zero_le _
  | x :: l, m, h, hs => by
    have hx := hs x List.mem_cons_self
    rw [List.nodup_cons] at h
    have := len_sub (l := l) (m := m.erase x) h.2 (fun y hy => (List.mem_erase_of_ne (show y ≠ x from fun e => h.1 (e ▸ hy))).mpr (hs y (List.mem_cons_of_mem _ hy)))
    rw [List.length_erase_of_mem hx] at this
    have h0 : 0 < m.length := List.length_pos_of_mem hx
    rw [List.length_cons]
    omega
def up (ps : Prs) : Option Str → Option Str
  | none => none
  | some c => overOf ps c
def upN (ps : Prs) : Nat → Option Str → Option Str
  | 0, o => o
  | n + 1, o => upN ps n (up ps o)
section
variable {ps : Prs}
theorem upN_add : ∀ (i j : Nat) (o : Option Str), upN ps (i + j) o = upN ps j (upN ps i o)
  | 0, j, o => by rw [Nat.zero_add]; rfl
  | i + 1, j, o => by rw [Nat.succ_add]; exact upN_add i j (up ps o)
theorem upN_succ (i : Nat) (o : Option Str) : upN ps (i + 1) o = up ps (upN ps i o) := upN_add i 1 o
theorem overOf_no : ∀ {ps : Prs} {c : Str}, c ∉ namesOf ps → overOf ps c = none
  | [], c, h => rfl
  | p :: r, c, h => by
    have h1 : ¬ p.1 = c := fun e => h (List.mem_map.mpr ⟨p, List.mem_cons_self, e⟩)
    rw [overOf_cons_neg h1]
    exact overOf_no fun e => h (List.mem_cons_of_mem _ e)
theorem over_kid {c : Str} (h : c ∈ namesOf ps) : c ∈ kidsOf ps (overOf ps c) := mem_kids.mpr (overOf_in h)
theorem kid_over (t : Tr ps) {o : Option Str} {c : Str} (h : c ∈ kidsOf ps o) : overOf ps c = o := overOf_mem t.nodup (mem_kids.mp h)
theorem rk_up (t : Tr ps) (o : Option Str) : rk ps o ≤ rk ps (up ps o) := by
  cases o with
  | none => exact Nat.le_refl _
  | some c =>
    by_cases h : c ∈ namesOf ps
    · exact Nat.le_of_lt (rk_kid t (over_kid h))
    · show rk ps (some c) ≤ rk ps (overOf ps c)
      rw [overOf_no h]
      exact rk_le _
theorem rk_upN (t : Tr ps) : ∀ (n : Nat) (o : Option Str), rk ps o ≤ rk ps (upN ps n o)
  | 0, o => Nat.le_refl _
  | n + 1, o => Nat.le_trans (rk_up t o) (rk_upN t n (up ps o))
theorem ord_up (t : Tr ps) : ∀ {n : Nat} {o : Option Str} {x : Str}, x ∈ ordF ps n o → ∃ k c, c ∈ kidsOf ps o ∧ upN ps k (some x) = some c
  | 0, o, x, h => by cases h
  | n + 1, o, x, h => by
    obtain ⟨c, hc, hx⟩ := List.mem_flatMap.mp h
    rcases List.mem_cons.mp hx with rfl | hx
    · exact ⟨0, x, hc, rfl⟩
    · obtain ⟨k, d, hd, hk⟩ := ord_up t hx
      refine ⟨k + 1, c, hc, ?_⟩
      rw [upN_succ, hk]
      exact kid_over t hd
theorem kids_nodup (t : Tr ps) (o : Option Str) : (kidsOf ps o).Nodup := by
  have h : (kidsOf ps o).Sublist (namesOf ps) := List.Sublist.map _ List.filter_sublist
  exact h.nodup t.nodup
theorem same_kid (t : Tr ps) {o : Option Str} {c d x : Str} (hc : c ∈ kidsOf ps o) (hd : d ∈ kidsOf ps o) {i j : Nat} (hi : upN ps i (some x) = some c) (hj : upN ps j (some x) = some d) : c = d := by
  have key : ∀ {c d : Str} {i j : Nat}, c ∈ kidsOf ps o → d ∈ kidsOf ps o → upN ps i (some x) = some c → upN ps j (some x) = some d → i ≤ j → c = d := by
    intro c d i j hc hd hi hj hij
    obtain ⟨m, rfl⟩ := Nat.le.dest hij
    rw [upN_add, hi] at hj
    cases m with
    | zero => injection hj
    | succ m =>
      have h1 : upN ps m (up ps (some c)) = some d := hj
      rw [show up ps (some c) = o from kid_over t hc] at h1
      have h2 := rk_upN t m o
      rw [h1] at h2
      have h3 := rk_kid t hd
      omega
  rcases Nat.le_total i j with h | h
  · exact key hc hd hi hj h
  · exact (key hd hc hj hi h).symm
theorem nodup_flatMap {α β : Type} {f : α → List β} : ∀ {l : List α}, l.Nodup → (∀ x ∈ l, (f x).Nodup) → (∀ x ∈ l, ∀ y ∈ l, x ≠ y → ∀ z, z ∈ f x → z ∈ f y → False) → (l.flatMap f).Nodup
  | [], _, _, _ => List.nodup_nil
  | x :: l, h, h1, h2 => by
    rw [List.nodup_cons] at h
    rw [List.flatMap_cons, List.nodup_append]
    refine ⟨h1 x List.mem_cons_self, nodup_flatMap h.2 (fun y hy => h1 y (List.mem_cons_of_mem _ hy)) (fun y hy z hz => h2 y (List.mem_cons_of_mem _ hy) z (List.mem_cons_of_mem _ hz)), ?_⟩
    intro a ha b hb e
    subst e
    obtain ⟨y, hy, hb⟩ := List.mem_flatMap.mp hb
    exact h2 x List.mem_cons_self y (List.mem_cons_of_mem _ hy) (fun e => h.1 (e ▸ hy)) a ha hb
theorem ordF_nodup (t : Tr ps) : ∀ (n : Nat) (o : Option Str), (ordF ps n o).Nodup
  | 0, o => List.nodup_nil
  | n + 1, o => by
    refine nodup_flatMap (kids_nodup t o) (fun c hc => ?_) fun c hc d hd ne z h1 h2 => ne ?_
    · rw [List.nodup_cons]
      refine ⟨fun h => ?_, ordF_nodup t n (some c)⟩
      obtain ⟨k, d, hd, hk⟩ := ord_up t h
      have h1 := rk_upN t k (some c)
      rw [hk] at h1
      have h2 := rk_kid t hd
      omega
    · have e1 : ∀ c, c ∈ kidsOf ps o → z ∈ c :: ordF ps n (some c) → ∃ k, upN ps k (some z) = some c := by
        intro c hc hz
        rcases List.mem_cons.mp hz with rfl | hz
        · exact ⟨0, rfl⟩
        · obtain ⟨k, d, hd, hk⟩ := ord_up t hz
          exact ⟨k + 1, by rw [upN_succ, hk]; exact kid_over t hd⟩
      obtain ⟨i, hi⟩ := e1 c hc h1
      obtain ⟨j, hj⟩ := e1 d hd h2
      exact same_kid t hc hd hi hj
theorem ord_nodup (t : Tr ps) (o : Option Str) : (ord ps o).Nodup := ordF_nodup t _ o
theorem ordF_names : ∀ {n : Nat} {o : Option Str} {x : Str}, x ∈ ordF ps n o → x ∈ namesOf ps
  | 0, o, x, h => by cases h
  | n + 1, o, x, h => by
    obtain ⟨c, hc, hx⟩ := List.mem_flatMap.mp h
    rcases List.mem_cons.mp hx with rfl | hx
    · exact kids_names hc
    · exact ordF_names hx
theorem ord_names {o : Option Str} {x : Str} (h : x ∈ ord ps o) : x ∈ namesOf ps := ordF_names h
theorem ord_kid (t : Tr ps) {o : Option Str} {c : Str} (h : c ∈ kidsOf ps o) : c ∈ ord ps o := by
  rw [ord_eq t]
  exact List.mem_flatMap.mpr ⟨c, h, List.mem_cons_self⟩
theorem ordF_step (t : Tr ps) : ∀ {n : Nat} {o : Option Str} {c d : Str}, d ∈ ordF ps n o → c ∈ kidsOf ps (some d) → c ∈ ordF ps (n + 1) o
  | 0, o, c, d, h, hc => by cases h
  | n + 1, o, c, d, h, hc => by
    obtain ⟨k, hk, hd⟩ := List.mem_flatMap.mp h
    refine List.mem_flatMap.mpr ⟨k, hk, List.mem_cons_of_mem _ ?_⟩
    rcases List.mem_cons.mp hd with rfl | hd
    · exact List.mem_flatMap.mpr ⟨c, hc, List.mem_cons_self⟩
    · exact ordF_step t hd hc
theorem ord_step (t : Tr ps) {o : Option Str} {c d : Str} (h : d ∈ ord ps o) (hc : c ∈ kidsOf ps (some d)) : c ∈ ord ps o := by
  have := ordF_step t h hc
  rw [ordF_more t (rk_le o) (Nat.le_succ _)] at this
  exact this
end
end DL
set_option Elab.async false
set_option linter.all false
set_option maxRecDepth 100000
set_option maxHeartbeats 2000000
namespace DL
open PySem PySem.Spec PyProof.Rows L2
section
variable {M M0 : Mu} {x o k C : Addr} {ns : List Str} {ovs ovs' : KVs} {b : List Kid}
theorem TCells.fresh (c : TCells M M0 x o k C ns ovs b) {q : Addr} (h : M q = none) : q ≠ x ∧ q ≠ o ∧ q ≠ k ∧ (∀ e ∈ b, q ≠ e.at_) ∧ M0 q = none := by
  have h1 : q ≠ x := fun e => by rw [e, c.hx] at h; cases h
  have h2 : q ≠ o := fun e => by rw [e, c.ho] at h; cases h
  have h3 : q ≠ k := fun e => by rw [e, c.hk] at h; cases h
  have h4 : ∀ e ∈ b, q ≠ e.at_ := fun e he e' => by rw [e', c.hb e he] at h; cases h
  exact ⟨h1, h2, h3, h4, by rw [← c.out q h1 h2 h3 h4]; exact h⟩
end
section
variable {acc : Prs} {p : Str × Option Str} {b : List Kid}
theorem kidsOf_snoc (o : Option Str) : kidsOf (acc ++ [p]) o = kidsOf acc o ++ (if p.2 = o then [p.1] else []) := by
  simp only [kidsOf, List.filter_append, List.map_append]
  congr 1
  by_cases h : p.2 = o
  · simp [h]
  · simp [h]
theorem TrF.snoc : ∀ {acc : Prs} {told : List Str}, TrF told acc → okPair (told ++ namesOf acc) p → TrF told (acc ++ [p])
  | [], told, h, ok => ⟨by simpa [namesOf] using ok, trivial⟩
  | q :: acc, told, h, ok => ⟨h.1, TrF.snoc h.2 (by simpa [namesOf] using ok)⟩
theorem Tr.snoc (t : Tr acc) (hl : acc.length < 8) (ok : okPair (namesOf acc) p) : Tr (acc ++ [p]) := ⟨by simp; omega, t.ok.snoc (by simpa using ok)⟩
theorem Tr.nil : Tr [] := ⟨by decide, trivial⟩
end
end DL
set_option Elab.async false
set_option linter.all false
set_option maxRecDepth 100000
set_option maxHeartbeats 2000000
namespace DL
open PySem PySem.Spec PyProof.Rows L2
def Frz (W : Wd) (M M' : Mu) : Prop := ∀ G F H, Rep W G M F H → ∃ G', Same G G' ∧ Rep W G' M' F H
section
variable {W : Wd} {Z : Zn} {G F H : Hp} {ρ : Ro} {M M' M2 M0 : Mu} {x o k r C : Addr} {ns : List Str} {ds l : List DV} {ovs : KVs} {b : List Kid} {Q2 : DQ}
theorem Frz.rfl : Frz W M M := fun G F H R => ⟨G, Same.refl G, R⟩
theorem Frz.trans (h : Frz W M M') (h' : Frz W M' M2) : Frz W M M2 := fun G F H R => by
  obtain ⟨G1, s1, R1⟩ := h G F H R
  obtain ⟨G2, s2, R2⟩ := h' G1 F H R1
  exact ⟨G2, s1.trans s2, R2⟩
theorem Frz.le (h : MLe M M') : Frz W M M' := fun G F H R => ⟨G, Same.refl G, R.weak h⟩
theorem TCells.frz (c : TCells M M0 x o k C ns ovs b) (hn : ns.length = 2) : Frz W M (updM M0 x (.ins C ns [dlD ovs, dlD (kidsF b)])) := fun G F H R => c.freeze hn R
theorem TCells.lst {d : DV} {es : List DV} {C' : Addr} {ns' : List Str} {ds' : List DV} (c : TCells M M0 x o k C ns ovs b) (h0 : M0 x = some (.ins C' ns' ds')) (l : LstOf M0 d es) : LstOf M d es := by
  rcases l with l | ⟨q, e, hq⟩
  · exact .inl l
  · refine .inr ⟨q, e, ?_⟩
    rw [c.out q (fun e => by rw [e, h0] at hq; cases hq) (fun e => by rw [e, c.fo] at hq; cases hq) (fun e => by rw [e, c.fk] at hq; cases hq) (fun f hf e => by rw [e, c.fb f hf] at hq; cases hq)]
    exact hq
theorem kdM_keep {d : DV} {k : Kd} (h : ∀ q ds, M0 q = some (.lst ds) → M q = some (.lst ds)) (hk : kdM M0 d = some k) : kdM M d = some k := by
  unfold kdM at hk
  split at hk
  all_goals first | (cases hk; rfl) | (cases hk; done) | skip
  rename_i q
  split at hk
  · rename_i ds e
    cases hk
    exact kd_r (h q ds e)
  · cases hk
theorem Kn.keep {d : DV} (h : ∀ q ds, M0 q = some (.lst ds) → M q = some (.lst ds)) (k : Kn M0 d) : Kn M d := ⟨k.1.elim fun k hk => ⟨k, kdM_keep h hk⟩, k.2⟩
theorem TCells.keep {C' : Addr} {ns' : List Str} {ds' : List DV} (c : TCells M M0 x o k C ns ovs b) (h0 : M0 x = some (.ins C' ns' ds')) : ∀ q ds, M0 q = some (.lst ds) → M q = some (.lst ds) := fun q ds hq => by
  rw [c.out q (fun e => by rw [e, h0] at hq; cases hq) (fun e => by rw [e, c.fo] at hq; cases hq) (fun e => by rw [e, c.fk] at hq; cases hq) (fun f hf e => by rw [e, c.fb f hf] at hq; cases hq)]
  exact hq
theorem TCells.le (c : TCells M M0 x o k C ns ovs b) : MLe M (delM M0 x) := .of fun q => by
  by_cases e : q = x
  · subst e; exact .inl delM_same
  · rw [delM_ne e]
    cases hb : inB o k b q with
    | true => exact .inl (c.inM hb).2.1
    | false =>
      obtain ⟨a1, a2, a3⟩ := inB_no hb
      exact .inr (c.out q e a1 a2 a3)
theorem TCells.start {q : Addr} (ho : M0 o = none) (hk : M0 k = none) (hq : M0 q = none) (ox : o ≠ x) (kx : k ≠ x) (qx : q ≠ x) (ok : o ≠ k) (qo : q ≠ o) (qk : q ≠ k) (hM : ∀ y, M y = if y = x then some (.ins C ns [.r o, .r k]) else if y = k then some (dlM [(.none, .r q)]) else if y = q then some (.lst []) else if y = o then some (dlM []) else M0 y) :
    TCells M M0 x o k C ns (ovsOf []) [⟨.none, q, []⟩] where
  hx := by rw [hM]; simp
  ho := by rw [hM]; simp [ox, ok, Ne.symm qo, ovsOf]
  hk := by rw [hM]; simp [kx, kidsR]
  hb := fun e he => by rw [List.mem_singleton.mp he, hM]; simp [qx, qk]
  out := fun y h1 h2 h3 h4 => by
    have := h4 _ (List.mem_singleton.mpr rfl)
    rw [hM, if_neg h1, if_neg h3, if_neg this, if_neg h2]
  fo := ho
  fk := hk
  fb := fun e he => by rw [List.mem_singleton.mp he]; exact hq
  ox := ox
  kx := kx
  ok := ok
  bx := fun e he => by rw [List.mem_singleton.mp he]; exact ⟨qx, qo, qk⟩
  dis := List.pairwise_singleton _ _
end
end DL
set_option Elab.async false
set_option linter.all false
set_option maxRecDepth 100000
set_option maxHeartbeats 2000000
namespace DL
open PySem PySem.Spec PyProof.Rows L2
def chr (c : Nat) : Str := ⟨#[c]⟩
end DL
set_option Elab.async false
set_option linter.all false
set_option maxRecDepth 100000
set_option maxHeartbeats 2000000
namespace DL
open PySem PySem.Spec PyProof.Rows L2
def okV : V → Bool
  | .byt _ => false
  | .flt _ => false
  | _ => true
section
variable {W : Wd} {Z : Zn} {G F H : Hp} {ρ : Ro} {M : Mu} {Q2 : DQ} {d e x y : DV} {ds : List DV} {vs : List V}
def See (Z : Zn) (d d' : DV) : Prop := ∀ G v, Same Z.G G → Dat Z.W G d v → Dat Z.W G d' v
theorem See.same : See Z d d := fun _ _ _ h => h
theorem See.lst (h : DatL Z.W Z.G ds vs) : See Z (.lst (vs.map DV.v)) (.lst ds) := fun G v s x => by
  obtain ⟨a, xs, rfl, h1, h2⟩ := dat_lst.mp x
  rw [datL_vs h2] at h1
  exact dat_lst.mpr ⟨a, vs, rfl, h1, h.mono s⟩
end
end DL
set_option Elab.async false
set_option linter.all false
set_option maxRecDepth 100000
set_option maxHeartbeats 2000000
namespace DL
open PySem PySem.Spec PyProof.Rows L2
section
variable {W : Wd} {Z : Zn} {G G' F H : Hp} {ρ : Ro} {M : Mu} {Q2 : DQ} {ns : List Str} {ds : List DV} {ts : TS} {D2 : Ends2}
theorem we_dnewK (h : Q2 (.dk [] []) M) : WE Z tDNewK ρ M Q2 := fun G σ H Q s R E r p hp =>
  r _ _ (upd G p (.dK [])) M _ (same_new (R.gnone hp)) (R.new hp) (dat_dk.mpr ⟨p, [], rfl, Rd.of (by unfold upd; rw [if_pos rfl]; rfl), rfl, datL_nil'⟩) h
def SeeR (Z : Zn) (ρ ρ' : Ro) : Prop := ∀ G σ, Same Z.G G → EnvOk Z.W G ρ σ → EnvOk Z.W G ρ' σ
theorem SeeR.set {i : Nat} {d e : DV} (hi : ρ[i]? = some (some d)) (hs : See Z d e) : SeeR Z ρ (ρ.set i (some e)) := fun G σ s E => by
  refine ⟨by simpa using E.len, fun j d' hj => ?_⟩
  by_cases ej : j = i
  · subst ej
    have hlt : j < ρ.length := (List.getElem?_eq_some_iff.mp hi).1
    rw [List.getElem?_set_self hlt] at hj
    cases hj
    obtain ⟨v, hv, dv⟩ := E.get j _ hi
    exact ⟨v, hv, hs G v s dv⟩
  · rw [List.getElem?_set_ne (Ne.symm ej)] at hj
    exact E.get j d' hj
end
def rIsXQ (K : PySem.W.Frag) (cls : Value) (d : Option Addr) (a : Addr) : List V → Hp → VK → Prop := fun xs H Q => ∃ (D tp : Addr) (cs : List V) (us : List Value) (b : Bool), cls = .ref D ∧ ExcC K D ∧ xs = [.ref a, .ref tp] ∧ SqT K H tp cs ∧ Paired ClsV cs us ∧
  PySem.W.kitAny K (.ref D) us = some b ∧ (d = none ∨ ∃ dd fs, d = some dd ∧ H dd = some (.xd fs)) ∧ Q (.bl b) H
section
variable {X : Cx} {a : Addr} {oe : PySem.Obj} {cls : Value} {d : Option Addr} {pn : List (Addr × PySem.Obj)}
theorem call_isXQ (hz : Zc cls d oe) (hf : ∃ vs, oe.data = .fields vs) : CallR (X.suite a ((a, oe) :: pn)) (.builtin "isinstance") (rIsXQ X.K cls d a) := by
  intro pins s σ H xs us Q I r h
  obtain ⟨D, tp, cs, ws, b, rfl, C, rfl, hT, k, e, hd, q⟩ := h
  obtain ⟨u1, u2, rfl, r1, r2⟩ := vals2 r
  cases (show u1 = Value.ref a from r1)
  cases (show u2 = Value.ref tp from r2)
  obtain ⟨od, J⟩ := inst_of I hz hf hd
  rcases hT with hT | ⟨o, its, n, h1, h2, h3, _, rv⟩
  · obtain ⟨_, its, rv, o, h1, h2, n, h3⟩ := (show ObjOk X.prog X.w H s.heap tp (.tup cs) from hT.ok I.hok)
    have e3 := ClsV.all k rv
    subst e3
    obtain ⟨oc, od', dt, sl⟩ := o
    simp only at h2 h3
    subst h2 h3
    exact PySem.W.kia_tup (kitx_of_excC C) I.kIn J h1 e (fun z => nomatch z) fun tk => ⟨.bl b, H, I.kept (t' := tk) fun _ _ z => z, rfl, q⟩
  · have e3 := ClsV.all k rv
    subst e3
    obtain ⟨oc, od', dt, sl⟩ := o
    simp only at h2 h3
    subst h2 h3
    exact PySem.W.kia_tup (kitx_of_excC C) I.kIn J (I.kIn _ _ h1) e (fun z => nomatch z) fun tk => ⟨.bl b, H, I.kept (t' := tk) fun _ _ z => z, rfl, q⟩
end
section
variable {W : Wd} {Z : Zn} {M : Mu} {Q2 : DQ} {ns : List Str} {ds : List DV}
theorem wc_isXQ {a D : Addr} {d : Option Addr} {cs : List V} {us : List Value} {b : Bool} (C : ExcC Z.W.K D) (hx : XdOk Z.W Z.G d ns ds) (hc : Paired ClsV cs us) (hk : PySem.W.kitAny Z.W.K (.ref D) us = some b) (h : Q2 (.b b) M) : WC Z (rIsXQ Z.W.K (.ref D) d a) [.r a, .tup (cs.map DV.v)] M Q2 := fun G H vs Q s R xs r => by
  obtain ⟨y, z, e1, h1, h2⟩ := two_of xs
  obtain ⟨tp, ws, rfl, h3, h4⟩ := dat_tup.mp h2
  rw [dat_v.mp h1] at e1
  rw [datL_vs h4] at h3
  exact ⟨D, tp, cs, us, b, rfl, C, e1, sqt_mono R.ex h3, hc, hk, xd_there hx (fun a o k => R.ex a o (s a o k)), r _ _ G M H (Same.refl G) R dat_v' h⟩
theorem wc_isX2 {a D C1 C2 : Addr} {d : Option Addr} {b : Bool} (C : ExcC Z.W.K D) (hx : XdOk Z.W Z.G d ns ds) (k1 : PySem.W.kitOne Z.W.K (.ref D) (.ref C1) = some false) (k2 : PySem.W.kitOne Z.W.K (.ref D) (.ref C2) = some b) (h : Q2 (.b b) M) : WC Z (rIsXQ Z.W.K (.ref D) d a) [.r a, .tup [.r C1, .r C2]] M Q2 :=
  wc_isXQ (cs := [.ref C1, .ref C2]) C hx (.cons (.own _) (.cons (.own _) .nil)) (by unfold PySem.W.kitAny; rw [k1]; unfold PySem.W.kitAny; rw [k2]; cases b <;> rfl) h
end
theorem takeWhile_lt {α : Type} {p : α → Bool} : ∀ {l : List α}, l.all p = false → (l.takeWhile p).length < l.length
  | [], h => by simp at h
  | c :: l, h => by
    rw [List.all_cons, Bool.and_eq_false_iff] at h
    rw [List.takeWhile_cons]
    cases e : p c with
    | false => simp
    | true =>
      rw [e] at h
      have := takeWhile_lt (l := l) (h.resolve_left (by simp))
      simp only [if_true, List.length_cons]
      omega
theorem drop_takeWhile {α : Type} {p : α → Bool} : ∀ {l : List α}, l.all p = false → (l.drop (l.takeWhile p).length).all p = false
  | [], h => by simp at h
  | c :: l, h => by
    rw [List.all_cons, Bool.and_eq_false_iff] at h
    rw [List.takeWhile_cons]
    cases e : p c with
    | false => simp [e]
    | true =>
      rw [e] at h
      simpa using drop_takeWhile (l := l) (h.resolve_left (by simp))
theorem strip_all {x y : Str} (h : Txt.stripChars x y = ⟨#[]⟩) : x.cps.toList.all y.cps.contains = true := by
  cases e : x.cps.toList.all y.cps.contains with
  | true => rfl
  | false =>
    exfalso
    unfold Txt.stripChars at h
    rw [PySem.W.stripBy_eq] at h
    replace h : Builtin.Str.strSub x (stripLo y.cps.contains true x) (stripHi y.cps.contains true x (stripLo y.cps.contains true x)) = ⟨#[]⟩ := h
    have h1 := takeWhile_lt e
    have h2 := takeWhile_lt (p := y.cps.contains) (l := (x.cps.toList.drop (x.cps.toList.takeWhile y.cps.contains).length).reverse) (by rw [List.all_reverse]; exact drop_takeWhile e)
    have h3 := congrArg (fun z : Str => z.cps.size) h
    simp only [stripLo, stripHi, Builtin.Str.strSub, if_true, Array.size_extract, Str.length] at h3
    rw [List.length_reverse, List.length_drop] at h2
    simp only [Array.length_toList] at h1 h2
    have h4 : (#[] : Array Nat).size = 0 := rfl
    rw [h4] at h3
    omega
theorem nameB_iff {z : Str} : nameB z = true ↔ 1 ≤ z.length ∧ z.length ≤ 8 ∧ ∀ c ∈ z.cps.toList, c ∈ letters.cps.toList := by
  unfold nameB
  rw [Bool.and_eq_true, Bool.and_eq_true, decide_eq_true_eq, decide_eq_true_eq, decide_eq_true_eq]
  constructor
  · rintro ⟨h1, h2, h3⟩
    refine ⟨by omega, by omega, fun c hc => ?_⟩
    have h3 : Txt.stripChars z letters = ⟨#[]⟩ := by injection h3
    have := List.all_eq_true.mp (strip_all h3) c hc
    rw [Array.contains_iff_mem] at this
    exact Array.mem_toList_iff.mpr this
  · rintro ⟨h1, h2, h3⟩
    refine ⟨by omega, by omega, ?_⟩
    rw [strip_letters (List.all_eq_true.mpr fun c hc => by
      rw [Array.contains_iff_mem]
      exact Array.mem_toList_iff.mp (h3 c hc))]
    rfl
section
variable {W : Wd} {Z : Zn} {G G' F H : Hp} {ρ : Ro} {M : Mu} {ts : TS} {D2 : Ends2} {g : TG}
theorem loop_V {β : Type} {tr : TS} (is : List Nat) (R : β → Ro) (S : Nat → β → Mu) (I : Nat → β → Prop) (c : Nat) {n : Nat} {b0 : β} {items : List DV} (hI : I 0 b0) (h0 : wipe2 ρ is = R b0)
    (hs : ∀ i d m b, items[i]? = some d → m ≤ n + c * i → I i b → WG Z g d (R b) (S m b) fun ρ1 M1 => WS Z ts { nx := fun ρ2 M2 => ∃ m' b', wipe2 ρ2 is = R b' ∧ m' ≤ m + c ∧ I (i + 1) b' ∧ M2 = S m' b', rt := D2.rt, bk := fun ρ2 M2 => WS Z tr D2 ρ2 M2, ct := fun ρ2 M2 => ∃ m' b', wipe2 ρ2 is = R b' ∧ m' ≤ m + c ∧ I (i + 1) b' ∧ M2 = S m' b' } ρ1 M1)
    (hk : ∀ m b, m ≤ n + c * items.length → I items.length b → WS Z tr D2 (R b) (S m b)) : Loop Z g ts { nx := fun ρ' M' => WS Z tr D2 ρ' M', rt := D2.rt, bk := D2.bk, ct := D2.ct } items ρ (S n b0) := by
  refine loop_word (fun j ρ2 M2 => ∃ m b, wipe2 ρ2 is = R b ∧ m ≤ n + c * j ∧ I j b ∧ M2 = S m b) items 0 ρ _ ⟨n, b0, h0, by omega, hI, rfl⟩ (fun i d ρ2 M2 hi h => ?_) fun ρ2 M2 h => ?_
  · rw [Nat.zero_add] at h ⊢
    obtain ⟨m, b, h1, h2, h3, rfl⟩ := h
    refine wg_env is ?_
    rw [h1]
    have key : ∀ ρ2 M2, (∃ m' b', wipe2 ρ2 is = R b' ∧ m' ≤ m + c ∧ I (i + 1) b' ∧ M2 = S m' b') → (∃ m b, wipe2 ρ2 is = R b ∧ m ≤ n + c * (i + 1) ∧ I (i + 1) b ∧ M2 = S m b) :=
      fun ρ2 M2 ⟨m', b', g1, g2, g3, g4⟩ => ⟨m', b', g1, by rw [Nat.mul_add]; omega, g3, g4⟩
    exact (hs i d m b hi h2 h3).imp fun ρ1 M1 q => q.imp key (fun _ _ h => h) (fun _ _ h => h) key
  · rw [Nat.zero_add] at h
    obtain ⟨m, b, h1, h2, h3, rfl⟩ := h
    refine ws_env is ?_
    rw [h1]
    exact hk m b h2 h3
end
end DL
set_option Elab.async false
set_option linter.all false
set_option maxRecDepth 100000
set_option maxHeartbeats 2000000
namespace DL
open PySem PySem.Spec PyProof.Rows L2
def Told (Q2 : DQ) (M : Mu) (ds : List DV) : Prop := Q2 (.lst ds) M ∨ ∀ q, M q = none → Q2 (.r q) (updM M q (.lst ds))
section
variable {W : Wd} {Z : Zn} {ρ : Ro} {M : Mu} {Q2 : DQ} {te : TE} {ds : List DV} {d : DV}
theorem told_f (h : Q2 (.lst ds) M) : Told Q2 M ds := .inl h
theorem wc_listT (l : SqOf M d ds) (h : Told Q2 M ds) : WC Z (rListQ Z.W.K) [d] M Q2 := by
  rcases h with h | h
  · exact wc_listQ l h
  · exact wc_listQM l h
end
theorem decV {i j : Int} : decide (V.int i = V.int j) = decide (i = j) := by
  by_cases h : i = j
  · subst h; rw [decide_eq_true rfl, decide_eq_true rfl]
  · rw [decide_eq_false h, decide_eq_false fun e => h (by injection e)]
section
variable {ps : Prs}
def ups (ps : Prs) : Nat → Option Str → List Str
  | 0, _ => []
  | _ + 1, none => []
  | n + 1, some c => c :: ups ps n (overOf ps c)
def inT (ps : Prs) (o : Option Str) : Prop := ∀ c, o = some c → c ∈ namesOf ps
theorem inT_over (t : Tr ps) (c : Str) : inT ps (overOf ps c) := fun d e => by
  by_cases h : c ∈ namesOf ps
  · have := overOf_in h
    obtain ⟨i, hi⟩ := List.getElem?_of_mem this
    have h2 := (t.pair hi).ov d e
    obtain ⟨g, hg, rfl⟩ := List.mem_map.mp h2
    exact List.mem_map.mpr ⟨g, List.mem_of_mem_take hg, rfl⟩
  · rw [overOf_no h] at e
    cases e
theorem rk_lt (t : Tr ps) {c : Str} (h : c ∈ namesOf ps) : rk ps (some c) < rk ps (overOf ps c) := rk_kid t (over_kid h)
theorem ups_stab (t : Tr ps) : ∀ (n : Nat) (o : Option Str), inT ps o → ps.length ≤ rk ps o + n → ups ps n o = ups ps (n + 1) o
  | 0, none, _, _ => rfl
  | 0, some c, hi, h => by
    have := rk_lt t (hi c rfl)
    have := rk_le (ps := ps) (overOf ps c)
    omega
  | n + 1, none, _, _ => rfl
  | n + 1, some c, hi, h => by
    show c :: ups ps n (overOf ps c) = c :: ups ps (n + 1) (overOf ps c)
    rw [ups_stab t n (overOf ps c) (inT_over t c) (by have := rk_lt t (hi c rfl); omega)]
/-- from the top down -/
def abv (ps : Prs) (c : Str) : List Str := (ups ps ps.length (overOf ps c)).reverse
def upto (ps : Prs) (o : Option Str) : List Str := (ups ps ps.length o).reverse
theorem abv_upto (c : Str) : abv ps c = upto ps (overOf ps c) := rfl
theorem ups_eq (t : Tr ps) {c : Str} (h : c ∈ namesOf ps) : ups ps ps.length (some c) = c :: ups ps ps.length (overOf ps c) := by
  have h1 : inT ps (some c) := fun d e => by cases e; exact h
  rw [ups_stab t ps.length (some c) h1 (by omega)]
  rfl
theorem upto_none : upto ps none = [] := by
  unfold upto
  cases ps.length <;> rfl
theorem upto_some (t : Tr ps) {c : Str} (h : c ∈ namesOf ps) : upto ps (some c) = abv ps c ++ [c] := by
  unfold upto abv
  rw [ups_eq t h, List.reverse_cons]
theorem mem_ups (t : Tr ps) {x : Str} : ∀ (n : Nat) (o : Option Str), x ∈ ups ps n o → ∃ k, upN ps k o = some x
  | 0, _, h => by cases h
  | n + 1, none, h => by cases h
  | n + 1, some c, h => by
    rcases List.mem_cons.mp h with rfl | h
    · exact ⟨0, rfl⟩
    · obtain ⟨k, hk⟩ := mem_ups t n (overOf ps c) h
      exact ⟨k + 1, hk⟩
theorem upN_none : ∀ n, upN ps n none = none
  | 0 => rfl
  | n + 1 => upN_none n
theorem ups_mem (t : Tr ps) {x : Str} : ∀ (k : Nat) (o : Option Str), inT ps o → upN ps k o = some x → x ∈ ups ps ps.length o
  | 0, some c, hi, h => by
    have h : some c = some x := h
    cases h
    rw [ups_eq t (hi x rfl)]
    exact List.mem_cons_self
  | 0, none, hi, h => by cases h
  | k + 1, none, hi, h => by
    rw [upN_none] at h
    cases h
  | k + 1, some c, hi, h => by
    rw [ups_eq t (hi c rfl)]
    exact List.mem_cons_of_mem _ (ups_mem t k (overOf ps c) (inT_over t c) h)
theorem abv_iff (t : Tr ps) {c x : Str} : x ∈ abv ps c ↔ ∃ k, upN ps (k + 1) (some c) = some x := by
  unfold abv
  rw [List.mem_reverse]
  constructor
  · intro h
    obtain ⟨k, hk⟩ := mem_ups t _ _ h
    exact ⟨k, hk⟩
  · rintro ⟨k, hk⟩
    exact ups_mem t k _ (inT_over t c) hk
theorem abv_names (t : Tr ps) {c x : Str} (h : x ∈ abv ps c) : x ∈ namesOf ps := by
  obtain ⟨k, hk⟩ := (abv_iff t).mp h
  rw [upN_succ] at hk
  cases e : upN ps k (some c) with
  | none => rw [e] at hk; cases hk
  | some d =>
    rw [e] at hk
    exact inT_over t d x hk
theorem ord_iff (t : Tr ps) {c x : Str} (hc : c ∈ namesOf ps) (hx : x ∈ namesOf ps) : x ∈ ord ps (some c) ↔ c ∈ abv ps x := by
  rw [abv_iff t]
  constructor
  · intro h
    obtain ⟨k, d, hd, hk⟩ := ord_up t h
    refine ⟨k, ?_⟩
    rw [upN_succ, hk]
    exact kid_over t hd
  · rintro ⟨k, hk⟩
    induction k generalizing x with
    | zero =>
      have h : overOf ps x = some c := hk
      have := over_kid hx
      rw [h] at this
      exact ord_kid t this
    | succ k ih =>
      cases e : overOf ps x with
      | none =>
        have : upN ps (k + 1) (overOf ps x) = some c := hk
        rw [e, upN_none] at this
        cases this
      | some y =>
        have h1 : upN ps (k + 1) (overOf ps x) = some c := hk
        rw [e] at h1
        have hy := inT_over t x y e
        have := ih hy h1
        exact ord_step t this (by have := over_kid hx; rw [e] at this; exact this)
end
end DL
set_option Elab.async false
set_option linter.all false
set_option maxRecDepth 100000
set_option maxHeartbeats 2000000
namespace DL
open PySem PySem.Spec PyProof.Rows L2
def tAs (t : TE) : TE := t
theorem pe_as {X : Cx} {e : Expr} {t : TE} (h : PE X e t) : PE X e (tAs t) := h
section
variable {W : Wd} {Z : Zn} {G F H : Hp} {ρ : Ro} {M : Mu} {Q2 : DQ} {te : TE} {tx : TA} {ds : List DV} {d : DV} {wi : TI} {g : TG} {tt : TT}
theorem we_asList (h : WA Z tx ρ M fun ds M1 => ∃ d es, ds = [d] ∧ SqOf M1 d es ∧ Told Q2 M1 es) : WE Z (tAs (tCB (rListQ Z.W.K) tx)) ρ M Q2 :=
  we_cb (h.imp fun ds M1 ⟨d, es, e, l, t⟩ => by subst e; exact wc_listT l t)
end
end DL
set_option Elab.async false
set_option linter.all false
set_option maxRecDepth 100000
set_option maxHeartbeats 2000000
namespace DL
open PySem PySem.Spec PyProof.Rows L2
def Teq (ps qs : Prs) : Prop := ord ps none = ord qs none ∧ ∀ c ∈ namesOf ps, overOf ps c = overOf qs c
instance (ps qs : Prs) : Decidable (Teq ps qs) := by unfold Teq; infer_instance
end DL
set_option Elab.async false
set_option linter.all false
set_option maxRecDepth 100000
set_option maxHeartbeats 4000000
namespace DL
open PySem PySem.Spec PyProof.Rows L2
def rTupAdd (K : PySem.W.Frag) : R2 := fun x y H Q => ∃ a b xs ys, x = .ref a ∧ y = .ref b ∧ SqT K H a xs ∧ SqT K H b ys ∧ xs.length + ys.length ≤ sizeLine ∧
  (xs = [] → Q (.ref b) H) ∧ (xs ≠ [] → ys = [] → Q (.ref a) H) ∧ (xs ≠ [] → ys ≠ [] → ∀ p, H p = none → Q (.ref p) (upd H p (.tup (xs ++ ys))))
section
variable {X : Cx} {K : PySem.W.Frag}
theorem cat_tup0 {prog : Program} {w : World} {A : Around} {E : Value → Shared → Prop} {s : Shared} {t b : Addr} {vs ws : List Value} {Q : Value → Shared → Prop} (ht : IsTup s.heap t vs.toArray) (hb : IsTup s.heap b ws.toArray) (hv : vs = [])
    (h : Q (.ref b) s) : wpAny (model prog w) A (binaryOp .Add (.ref t) (.ref b)) Q E s := by
  obtain ⟨⟨cls, dd, data, sl⟩, ho, hc, n, hd⟩ := id ht
  obtain ⟨⟨cls2, dd2, data2, sl2⟩, ho2, hc2, n2, hd2⟩ := id hb
  simp only at hc hd hc2 hd2
  subst hc hd hc2 hd2
  exact concat_meets ⟨_, ho, rfl⟩ ⟨_, ho2, rfl⟩ noFill_tuple_add seq_tuple_add PySem.F.slot_tuple_add PySem.F.entry_tuple_add (PySem.F.args_tuple_add_2 _ _)
      (tuple_addW0 t b vs.toArray ws.toArray n n2 dd dd2 sl sl2 (by simp [hv])) ⟨ho, ho2, h⟩
theorem k_addT (e : X.K = K) : OpR X (binaryOp .Add) (rTupAdd K) := by
  subst e
  intro pins s σ H x y v u Q I rx ry h
  obtain ⟨a, b, xs, ys, rfl, rfl, ha, hb, hz, q0, q1, q2⟩ := h
  cases rx
  cases ry
  obtain ⟨its, r1, p1, _⟩ := I.tuple ha
  obtain ⟨its2, r2, p2, _⟩ := I.tuple hb
  by_cases hx : xs = []
  · exact cat_tup0 p1 p2 (r1.nil_iff.mpr hx) ⟨.ref b, H, I, rfl, q0 hx⟩
  · refine HT.cat_tup p1 p2 (fun z => hx (r1.nil_iff.mp z)) (fun z => ⟨.ref a, H, I, rfl, q1 hx (r2.nil_iff.mp z)⟩) (fun z => ?_) (by rw [← r1.length, ← r2.length]; exact hz)
    refine ⟨.ref s.heap.objs.size, _, I.laid (t' := s.toks) (o := .tup (xs ++ ys)) (fun b ob q => Heap.get?_push_of_some _ q) (Nat.le_refl _) ?_, rfl, q2 hx (fun w => z (r2.nil_iff.mpr w)) _ (I.hok.fresh (Nat.le_refl _))⟩
    exact ⟨by rw [List.length_append]; exact hz, _, r1.append r2, IsTup.new _ _⟩
end
section
variable {W : Wd} {Z : Zn} {G F H : Hp} {M : Mu} {Q2 : DQ} {ds es : List DV} {v : V}
theorem Rep.newT {p : Addr} {xs : List V} (R : Rep W G M F H) (hp : H p = none) (hd : DatL W G ds xs) : Same G (upd G p (.tup xs)) ∧ Rep W (upd G p (.tup xs)) M F (upd H p (.tup xs)) ∧ Dat W (upd G p (.tup xs)) (.tup ds) (.ref p) :=
  ⟨same_new (R.gnone hp), R.new hp, dat_tup.mpr ⟨p, xs, rfl, .inl (Rd.of (by unfold upd; rw [if_pos rfl])), hd.mono (same_new (R.gnone hp))⟩⟩
theorem wr_tupAdd (hz : ds.length + es.length ≤ 1000000) (h : Q2 (.tup (ds ++ es)) M) : WR Z (rTupAdd Z.W.K) (.tup ds) (.tup es) M Q2 := fun G H vx vy Q s R dx dy r => by
  obtain ⟨a, xs, rfl, h1, h2⟩ := dat_tup.mp dx
  obtain ⟨b, ys, rfl, h3, h4⟩ := dat_tup.mp dy
  refine ⟨a, b, xs, ys, rfl, rfl, sqt_mono R.ex h1, sqt_mono R.ex h3, by rw [h2.length, h4.length]; exact le_size hz, fun e => ?_, fun _ e => ?_, fun _ _ p hp => ?_⟩
  · subst e
    have : ds = [] := List.length_eq_zero_iff.mp (by rw [← h2.length]; rfl)
    subst this
    exact r _ _ G M H (Same.refl G) R dy h
  · subst e
    have : es = [] := List.length_eq_zero_iff.mp (by rw [← h4.length]; rfl)
    subst this
    rw [List.append_nil] at h
    exact r _ _ G M H (Same.refl G) R dx h
  · obtain ⟨s1, R1, d1⟩ := R.newT hp (h2.append h4)
    exact r _ _ _ M _ s1 R1 d1 h
end
end DL
set_option Elab.async false
set_option linter.all false
set_option maxRecDepth 100000
set_option maxHeartbeats 4000000
namespace DL
open PySem PySem.Spec PyProof.Rows L2
theorem SetOf.keep {P : Program} {w : World} {K : Type} [DecidableEq K] {knd : PySem.KeyKind P w K} {h h' : Heap} {a : Addr} {S : K → Bool} {n : Nat} (x : h.SetOf knd a S n) (k : ∀ o, h.get? a = some o → h'.get? a = some o) : h'.SetOf knd a S n := by
  obtain ⟨o, es, ep, t, ho, rest⟩ := x
  exact ⟨o, es, ep, t, k o ho, rest⟩
end DL
set_option Elab.async false
set_option linter.all false
set_option maxRecDepth 100000
set_option maxHeartbeats 2000000
namespace DL
open PySem PySem.Spec PyProof.Rows L2
theorem namesOf_app (xs ys : Prs) : namesOf (xs ++ ys) = namesOf xs ++ namesOf ys := by unfold namesOf; rw [List.map_append]
/-- a tree's pairs, in its order -/
def oprs (ps : Prs) (l : List Str) : Prs := l.map fun c => (c, overOf ps c)
section
variable {ps : Prs}
theorem rk_ord (t : Tr ps) : ∀ {n : Nat} {o : Option Str} {x : Str}, x ∈ ordF ps n o → rk ps (some x) < rk ps o
  | n + 1, o, x, h => by
    obtain ⟨c, hc, h⟩ := List.mem_flatMap.mp h
    have h1 := rk_kid t hc
    rcases List.mem_cons.mp h with rfl | h
    · exact h1
    · exact Nat.lt_trans (rk_ord t h) h1
theorem kids_out (t : Tr ps) {d : Str} (h : d ∉ namesOf ps) : kidsOf ps (some d) = [] := by
  rw [List.eq_nil_iff_forall_not_mem]
  intro c hc
  have := kid_over t hc
  exact h (inT_over t c d this)
end
end DL
set_option Elab.async false
set_option linter.all false
set_option maxRecDepth 100000
set_option maxHeartbeats 2000000
namespace DL
open PySem PySem.Spec PyProof.Rows L2
end DL
set_option Elab.async false
set_option linter.all false
set_option maxRecDepth 100000
set_option maxHeartbeats 2000000
namespace DL
open PySem PySem.Spec PyProof.Rows L2
section
variable {ps : Prs}
/-- a top and all beneath it -/
def blk (ps : Prs) (c : Str) : List Str := c :: ord ps (some c)
def sub (ps : Prs) (c : Str) : Prs := oprs ps (blk ps c)
end
end DL
set_option Elab.async false
set_option linter.all false
set_option maxRecDepth 100000
set_option maxHeartbeats 2000000
namespace DL
open PySem PySem.Spec PyProof.Rows L2
end DL
set_option Elab.async false
set_option linter.all false
set_option maxRecDepth 100000
set_option maxHeartbeats 2000000
namespace DL
open PySem PySem.Spec PyProof.Rows L2
theorem tl_len (x : Str) : (TL.tl x).length = x.length := rfl
end DL
set_option Elab.async false
set_option linter.all false
set_option maxRecDepth 100000
set_option maxHeartbeats 2000000
namespace DL
open PySem PySem.Spec PyProof.Rows L2
end DL
set_option Elab.async false
set_option linter.all false
set_option maxRecDepth 100000
set_option maxHeartbeats 2000000
namespace DL
open PySem PySem.Spec PyProof.Rows L2
end DL
set_option Elab.async false
set_option linter.all false
set_option maxRecDepth 100000
set_option maxHeartbeats 2000000
namespace DL
open PySem PySem.Spec PyProof.Rows L2
section
variable {W : Wd} {Z : Zn} {G F H : Hp} {M : Mu} {Q2 : DQ}
/-- two trees that tell the same -/
structure Like (qs ps : Prs) : Prop where
  len : qs.length = ps.length
  kids : ∀ o, kidsOf qs o = kidsOf ps o
  over : ∀ c, overOf qs c = overOf ps c
  nam : ∀ c, c ∈ namesOf qs ↔ c ∈ namesOf ps
end
section
variable {ps qs : Prs}
theorem Like.rfl : Like ps ps := ⟨Eq.refl _, fun _ => Eq.refl _, fun _ => Eq.refl _, fun _ => Iff.rfl⟩
end
end DL
set_option Elab.async false
set_option linter.all false
namespace DL
open PySem PySem.Spec PyProof.Rows L2
end DL
set_option Elab.async false
set_option linter.all false
set_option maxRecDepth 100000
namespace DL
open PySem PySem.Spec PyProof.Rows L2
/-- a tuple (true) or a list (false) -/
def SqK (t : Bool) (K : PySem.W.Frag) (H : Hp) (a : Addr) (xs : List V) : Prop := match t with
  | true => SqT K H a xs
  | false => SqL K H a xs
def AtK (t : Bool) (h : Heap) (a : Addr) (its : Array Value) : Prop := match t with
  | true => h.IsTuple a its
  | false => h.IsList a its
def GoK (t : Bool) (h : Heap) (it a : Addr) (i : Nat) : Prop := match t with
  | true => h.IsTupleIter it a i
  | false => h.IsListIter it a i
def begK (t : Bool) (a : Addr) : PySem.Obj := match t with
  | true => { cls := .type "tuple_iterator", data := .fields #[.ref a, .int 0 0] }
  | false => { cls := .type "list_iterator", data := .fields #[.ref a, .int 0 0] }
section
variable {X : Cx} {pins : List (Addr × PySem.Obj)} {σ : L2.St} {H : Hp} {s : Shared} {a it : Addr} {xs : List V} {t : Bool} {h h' : Heap} {i : Nat}
theorem inv_K (I : Inv X pins σ H s) (q : SqK t X.K H a xs) : ∃ its : List Value, Vals xs its ∧ AtK t s.heap a its.toArray ∧ a < s.heap.objs.size := by
  cases t with
  | true =>
    obtain ⟨its, r, p, _⟩ := I.tuple q
    obtain ⟨o, e, _⟩ := id p
    exact ⟨its, r, p, Heap.lt_size e⟩
  | false =>
    obtain ⟨its, r, p, _⟩ := I.list q
    exact ⟨its, r, p.isList, p.lt⟩
theorem GoK.obj (q : GoK t h it a i) : ∃ o, h.get? it = some o ∧ ∀ v, o.data ≠ .cell v := by
  cases t with
  | true => obtain ⟨o, e, _, d⟩ := q; exact ⟨o, e, fun v k => by rw [d] at k; cases k⟩
  | false => obtain ⟨o, e, _, d⟩ := q; exact ⟨o, e, fun v k => by rw [d] at k; cases k⟩
theorem GoK.keep (q : GoK t h it a i) (k : ∀ o, h.get? it = some o → h'.get? it = some o) : GoK t h' it a i := by
  cases t with
  | true => exact Heap.IsTupleIter.at q k
  | false => exact Heap.IsListIter.at q k
theorem GoK.beg (e : h.get? it = some (begK t a)) : GoK t h it a 0 := by
  cases t with
  | true => exact ⟨_, e, rfl, rfl⟩
  | false => exact ⟨_, e, rfl, rfl⟩
theorem drawsK {prog : Program} {w : World} {A : Around} (hh : A.handled = none) (ne : a ≠ it) (items : Array Value) : Draws prog w A it [it, a] items.size (fun i v => items[i]? = some v) (fun i h => GoK t h it a i ∧ AtK t h a items) := by
  cases t with
  | true => exact Draws.tuple hh it a ne items
  | false => exact Draws.list hh it a ne items
theorem beginsK (items : Array Value) : Begins (.ref a) (begK t a) fun h => AtK t h a items := by
  cases t with
  | true => exact begins_tuple a items
  | false => exact begins_list a items
end
/-- the cells of a zip of two, and of what it walks -/
structure Sep2 (z ti to i1 i2 a b : Addr) : Prop where
  nd : [z, ti, to, i1, i2].Nodup
  ha : ∀ c ∈ [z, ti, to, i1, i2], c ≠ a ∧ c ≠ b
def Itz2 (K : PySem.W.Frag) (t1 t2 : Bool) (a b : Addr) (xs ys : List V) : It :=
  ⟨fun i H => SqK t1 K H a xs ∧ SqK t2 K H b ys ∧ i < xs.length ∧ i < ys.length,
   fun i H v H' => ∃ p x y, v = .ref p ∧ H p = none ∧ H' = upd H p (.tup [x, y]) ∧ xs[i]? = some x ∧ ys[i]? = some y,
   fun i H => SqK t1 K H a xs ∧ SqK t2 K H b ys ∧ min xs.length ys.length ≤ i⟩
def Zs2 (t1 t2 : Bool) (z ti to i1 i2 a b : Addr) (n : Nat) (i : Nat) (h : Heap) : Prop := IsZip h z ti to .none ∧ IsTupOf2 h ti (.ref i1) (.ref i2) ∧ (∃ u v, IsTupOf2 h to u v) ∧ GoK t1 h i1 a i ∧ GoK t2 h i2 b i ∧ i ≤ n
theorem turn_z2 {P : Program} {w : World} {K : PySem.W.Frag} {elts : List Expr} {kk : Nat} {tpos : Pos} {t1 t2 : Bool} {z ti to i1 i2 a b : Addr} {xs ys : List V} (D : Sep2 z ti to i1 i2 a b) :
    Turn P w K (.Tuple elts kk tpos) (Itz2 K t1 t2 a b xs ys) [z, ti, to, i1, i2] z (Zs2 t1 t2 z ti to i1 i2 a b (min xs.length ys.length)) := by
  have nd := D.nd
  simp only [List.nodup_cons, List.mem_cons, List.not_mem_nil, or_false, not_or, not_false_eq_true, List.nodup_nil, and_true] at nd
  obtain ⟨⟨n1, n2, n3, n4⟩, ⟨n5, n6, n7⟩, ⟨n8, n9⟩, n10⟩ := nd
  have ha := D.ha
  simp only [List.mem_cons, List.not_mem_nil, or_false, forall_eq_or_imp, forall_eq] at ha
  obtain ⟨⟨a1, b1⟩, ⟨a2, b2⟩, ⟨a3, b3⟩, ⟨a4, b4⟩, ⟨a5, b5⟩⟩ := ha
  have S : ZipSep2 z ti to i1 i2 [i1, a] [i2, b] := ⟨Ne.symm n1, Ne.symm n2, n5, n6, by simp, by simp [n3, a1], by simp [n8, a3], n7, by simp, by simp [n4, b1], by simp [n9, b3], by simp [n10, b4], by simp [Ne.symm n10, a5]⟩
  refine ⟨by simp, fun i h st c hc => ?_, fun i h h' st k => ?_, ?_, ?_, fun A i s Q E st h => wpAny_pyIter_zip st.1 h⟩
  · obtain ⟨hz, hti, ⟨u, v, hto⟩, g1, g2, _⟩ := st
    simp only [List.mem_cons, List.not_mem_nil, or_false] at hc
    rcases hc with e | e | e | e | e
    · rw [e]; exact ⟨_, hz, fun v k => nomatch k⟩
    · rw [e]; exact ⟨_, hti, fun v k => nomatch k⟩
    · rw [e]; exact ⟨_, hto, fun v k => nomatch k⟩
    · rw [e]; exact g1.obj
    · rw [e]; exact g2.obj
  · obtain ⟨hz, hti, ⟨u, v, hto⟩, g1, g2, l⟩ := st
    exact ⟨k z (by simp) _ hz, k ti (by simp) _ hti, ⟨u, v, k to (by simp) _ hto⟩, g1.keep (k i1 (by simp)), g2.keep (k i2 (by simp)), l⟩
  · intro X hP hw hK hc i pins s σ H E I hf st hg
    subst hP hw hK
    obtain ⟨hz, hti, ⟨u0, v0, hto⟩, g1, g2, _⟩ := st
    obtain ⟨q1, q2, l1, l2⟩ := hg
    obtain ⟨its1, r1, p1, _⟩ := inv_K I q1
    obtain ⟨its2, r2, p2, _⟩ := inv_K I q2
    have hzl : z < s.heap.objs.size := Heap.lt_size hz
    have hA : X.A.in1.handled = none := I.ok.hd hc
    have D1 := drawsK (t := t1) (prog := X.prog) (w := X.w) hA (Ne.symm a4) its1.toArray
    have D2 := drawsK (t := t2) (prog := X.prog) (w := X.w) hA (Ne.symm b5) its2.toArray
    refine wpAny_pyNext_zipD2_item S D1 D2 hz hti hto ⟨g1, p1⟩ ⟨g2, p2⟩ (by have := r1.length; simp; omega) (by have := r2.length; simp; omega) fun u1 u2 h' tk hu1 hu2 z' to' ⟨g1', _⟩ ⟨g2', _⟩ hT hsz hk => ?_
    refine ⟨_, rfl, wpAny_letOwnedTupleGo_zip (s := { s with heap := h', toks := tk }) z' fun h'' z'' sb => ?_⟩
    have hu1' : its1[i]? = some u1 := by simpa using hu1
    have hu2' : its2[i]? = some u2 := by simpa using hu2
    obtain ⟨x1, hx1⟩ : ∃ x1, xs[i]? = some x1 := ⟨_, List.getElem?_eq_getElem l1⟩
    obtain ⟨x2, hx2⟩ : ∃ x2, ys[i]? = some x2 := ⟨_, List.getElem?_eq_getElem l2⟩
    have e1 : RelV x1 u1 := by obtain ⟨u, hu, ru⟩ := r1.get hx1; rw [hu] at hu1'; cases hu1'; exact ru
    have e2 : RelV x2 u2 := by obtain ⟨u, hu, ru⟩ := r2.get hx2; rw [hu] at hu2'; cases hu2'; exact ru
    have hT2 : h''.get? s.heap.objs.size = some { cls := .type "tuple", data := .seq #[u1, u2] } := (sb.2 _ (Nat.ne_of_gt hzl)).trans hT
    have new : ObjOk X.prog X.w (upd H s.heap.objs.size (.tup [x1, x2])) h'' s.heap.objs.size (.tup [x1, x2]) :=
      ⟨by show 2 ≤ sizeLine; decide, [u1, u2], .cons e1 (.cons e2 .nil), ⟨_, hT2, rfl, _, rfl⟩⟩
    have I1 : Inv X pins σ (upd H s.heap.objs.size (.tup [x1, x2])) { s with heap := h'', toks := tk } :=
      I.turnedNew (t' := tk) (ch := [z, ti, to, i1, i2]) (fun c o hb k => by
        simp only [List.mem_cons, List.not_mem_nil, or_false, not_or] at hb
        exact (sb.2 c hb.1).trans (hk c o hb.1 hb.2.2.1 hb.2.2.2.1 hb.2.2.2.2 k)) hf (Nat.le_refl _) new
    refine ⟨.ref s.heap.objs.size, _, I1, rfl, ⟨_, x1, x2, rfl, I.hok.fresh (Nat.le_refl _), rfl, hx1, hx2⟩, ⟨z'', ?_, ⟨u1, u2, ?_⟩, ?_, ?_, by omega⟩, fun c hcm => ?_⟩
    · exact (sb.2 _ (Ne.symm n1)).trans (hk _ _ (Ne.symm n1) n5 n6 n7 hti)
    · exact (sb.2 _ (Ne.symm n2)).trans to'
    · exact g1'.keep fun o k => (sb.2 _ (Ne.symm n3)).trans k
    · exact g2'.keep fun o k => (sb.2 _ (Ne.symm n4)).trans k
    · have hlt : c < s.heap.objs.size := by
        simp only [List.mem_cons, List.not_mem_nil, or_false] at hcm
        rcases hcm with e | e | e | e | e
        · rw [e]; exact hzl
        · rw [e]; exact Heap.lt_size hti
        · rw [e]; exact Heap.lt_size hto
        · rw [e]; obtain ⟨_, k, _⟩ := g1.obj; exact Heap.lt_size k
        · rw [e]; obtain ⟨_, k, _⟩ := g2.obj; exact Heap.lt_size k
      rw [upd_ne (Nat.ne_of_lt hlt)]
      exact (hf c hcm).1
  · intro X hP hw hK hc i pins s σ H E I hf st hg
    subst hP hw hK
    obtain ⟨hz, hti, ⟨u0, v0, hto⟩, g1, g2, l⟩ := st
    obtain ⟨q1, q2, l'⟩ := hg
    obtain ⟨its1, r1, p1, _⟩ := inv_K I q1
    obtain ⟨its2, r2, p2, _⟩ := inv_K I q2
    have k1 := r1.length
    have k2 := r2.length
    have hA : X.A.in1.handled = none := I.ok.hd hc
    have D1 := drawsK (t := t1) (prog := X.prog) (w := X.w) hA (Ne.symm a4) its1.toArray
    have D2 := drawsK (t := t2) (prog := X.prog) (w := X.w) hA (Ne.symm b5) its2.toArray
    refine wpAny_pyNext_zipD2_end S D1 D2 hz hti hto ⟨g1, p1⟩ ⟨g2, p2⟩ (by simp; omega) (by simp; omega) (by simp; omega) fun h' tk hk => ⟨rfl, I.turnedL (t' := tk) (ch := [z, ti, to, i1, i2]) (fun c o hb k => ?_) hf⟩
    simp only [List.mem_cons, List.not_mem_nil, or_false, not_or] at hb
    exact hk c o hb.1 hb.2.2.1 hb.2.2.2.1 hb.2.2.2.2 k
theorem five_nd (n : Nat) : [n + 4, n + 2, n + 3, n, n + 1].Nodup := by
  simp only [List.nodup_cons, List.mem_cons, List.not_mem_nil, or_false, not_or, not_false_eq_true, List.nodup_nil, and_true]
  omega
theorem five_ge (n c : Nat) (h : c ∈ [n + 4, n + 2, n + 3, n, n + 1]) : n ≤ c := by
  simp only [List.mem_cons, List.not_mem_nil, or_false] at h
  omega
/-- zip(x, y) -/
def iZip2 (K : PySem.W.Frag) (ta : TA) : TI := fun σ H R => ta σ H fun vs H1 => ∃ a b t1 t2 xs ys, vs = [.ref a, .ref b] ∧ SqK t1 K H1 a xs ∧ SqK t2 K H1 b ys ∧ R (Itz2 K t1 t2 a b xs ys) H1
theorem pi_zip2 {X : Cx} {K : PySem.W.Frag} {e e2 : Expr} {ta : TA} {p pos tpos : Pos} {elts : List Expr} {kk : Nat} (eK : X.K = K) (hg : Gl X "zip") (hm : X.mg "zip" = none) (ha : PA X [e, e2] ta)
    (hs : starEach [e, e2] X.env = (false, eval e X.env) :: starEach [e2] X.env := by rfl) (hpl : (backTo pos (starEach [e2] X.env)).any (·.1) = false := by rfl) :
    PI X (.Tuple elts kk tpos) (.Call (.Name "zip" p) [e, e2] [] pos) (iZip2 K ta) := by
  subst eK
  constructor
  intro pins s σ H R I h
  refine Call_ (ld_blt I hg hm PyProof.Rows.boot_zip (PyProof.Rows.callWith_type1 (thn (ha.run pos pins s σ H _ I h) fun us s1 hq => ?_) hs hpl))
  obtain ⟨vs, H1, I1, r1, a, b, t1, t2, xs, ys, rfl, s1', s2', q⟩ := hq
  cases r1 with | cons r rr => ?_
  cases rr with | cons r' rr => ?_
  cases rr
  cases r
  cases r'
  obtain ⟨its1, _, p1, la⟩ := inv_K I1 s1'
  obtain ⟨its2, _, p2, lb⟩ := inv_K I1 s2'
  refine zip_begins2 (beginsK (t := t1) its1.toArray) (beginsK (t := t2) its2.toArray) p1 p2 fun h' hz hti hto b1 b2 hsz hk => wpAny_pyIter_zip hz ?_
  refine ⟨s1.heap.objs.size + 4, [s1.heap.objs.size + 4, s1.heap.objs.size + 2, s1.heap.objs.size + 3, s1.heap.objs.size, s1.heap.objs.size + 1], _, _, H1, rfl, I1.kept (t' := s1.toks) hk, turn_z2 (a := a) (b := b) ⟨?_, fun c hc => ?_⟩, ⟨hz, hti, ⟨_, _, hto⟩, GoK.beg b1, GoK.beg b2, Nat.zero_le _⟩, fun c hc => ?_, q⟩
  · exact five_nd _
  · have hle := five_ge _ _ hc
    exact ⟨Ne.symm (Nat.ne_of_lt (Nat.lt_of_lt_of_le la hle)), Ne.symm (Nat.ne_of_lt (Nat.lt_of_lt_of_le lb hle))⟩
  · have hle := five_ge _ _ hc
    exact I1.fpOk hle (I1.hok.fresh hle)
end DL
set_option Elab.async false
set_option linter.all false
set_option maxRecDepth 100000
namespace DL
open PySem PySem.Spec PyProof.Rows L2
def zip2D (ds es : List DV) : List DV := List.zipWith (fun d e => .tup [d, e]) ds es
section
variable {W : Wd} {Z : Zn} {G F H : Hp} {ρ : Ro} {M : Mu} {ds es fs : List DV} {tx : TA}
theorem sqK_of {d : DV} {v : V} (hd : d = .lst ds ∨ d = .tup ds) (h : Dat W G d v) : ∃ a t xs, v = .ref a ∧ (∀ H, Same G H → SqK t W.K H a xs) ∧ DatL W G ds xs := by
  rcases hd with rfl | rfl
  · obtain ⟨a, xs, rfl, e, l⟩ := dat_lst.mp h
    exact ⟨a, false, xs, rfl, fun H s => SqL.of (s a _ e), l⟩
  · obtain ⟨a, xs, rfl, e, l⟩ := dat_tup.mp h
    exact ⟨a, true, xs, rfl, fun H s => sqt_mono s e, l⟩
theorem itz2_ok {a b : Addr} {t1 t2 : Bool} {xs ys : List V} (h1 : ∀ H, Same G H → SqK t1 W.K H a xs) (h2 : ∀ H, Same G H → SqK t2 W.K H b ys) (d1 : DatL W G ds xs) (d2 : DatL W G es ys) : ItOk W G (Itz2 W.K t1 t2 a b xs ys) (zip2D ds es) where
  go := fun i G' F M H' s R hi => by
    have l1 := d1.length
    have l2 := d2.length
    unfold zip2D at hi
    rw [List.length_zipWith] at hi
    exact ⟨h1 H' (s.trans R.ex), h2 H' (s.trans R.ex), by omega, by omega⟩
  stop := fun i G' F M H' s R hi => by
    have l1 := d1.length
    have l2 := d2.length
    unfold zip2D at hi
    rw [List.length_zipWith] at hi
    exact ⟨h1 H' (s.trans R.ex), h2 H' (s.trans R.ex), by omega⟩
  yld := fun i d G' F M H' x H'' s R hi hy => by
    obtain ⟨p, x1, y1, rfl, hp, rfl, e1, e2⟩ := hy
    obtain ⟨c1, k1, dd1⟩ := (d1.mono s).getV e1
    obtain ⟨c2, k2, dd2⟩ := (d2.mono s).getV e2
    unfold zip2D at hi
    rw [List.getElem?_zipWith, k1, k2] at hi
    cases hi
    obtain ⟨s', R', D⟩ := R.newT hp (datL_cons' dd1 (datL_cons' dd2 datL_nil'))
    exact ⟨_, s', R', D⟩
theorem wi_zip2 {R2 : List DV → Mu → Prop} (h : WA Z tx ρ M fun as M1 => ∃ d e ds es, as = [d, e] ∧ (d = .lst ds ∨ d = .tup ds) ∧ (e = .lst es ∨ e = .tup es) ∧ R2 (zip2D ds es) M1) : WI Z (iZip2 Z.W.K tx) ρ M R2 := fun G σ H R s r E k =>
  h G σ H _ s r E fun as vs G' M' H' s' r' hd ⟨d, e, ds, es, ea, h1, h2, q⟩ => by
    subst ea
    obtain ⟨y1, y2, rfl, e1, e2⟩ := two_of hd
    obtain ⟨a, t1, xs, rfl, k1, d1⟩ := sqK_of h1 e1
    obtain ⟨b, t2, ys, rfl, k2, d2⟩ := sqK_of h2 e2
    exact ⟨a, b, t1, t2, xs, ys, rfl, k1 _ r'.ex, k2 _ r'.ex, k _ _ G' M' H' s' r' (itz2_ok k1 k2 d1 d2) q⟩
end
end DL
set_option Elab.async false
set_option linter.all false
namespace DL
open PySem PySem.Spec PyProof.Rows L2
theorem seqIx_n {n k : Nat} (h : k < n) : seqIndex? (k : Int) n = some k := by
  unfold seqIndex?
  simp
  omega
theorem erase_mp {α β : Type} (f : α → β) : ∀ (l : List α) (k : Nat), (l.map f).eraseIdx k = (l.eraseIdx k).map f
  | [], k => by simp
  | a :: l, 0 => rfl
  | a :: l, k + 1 => by simp [List.eraseIdx, erase_mp f l k]
end DL
set_option Elab.async false
set_option linter.all false
set_option maxRecDepth 100000
set_option maxHeartbeats 1000000
namespace DL
open PySem PySem.Spec PyProof.Rows L2
theorem Sep2.zs {zz ti to i1 i2 a b : Addr} (D : Sep2 zz ti to i1 i2 a b) : ZipSep2 zz ti to i1 i2 [i1, a] [i2, b] := by
  have nd := D.nd
  simp only [List.nodup_cons, List.mem_cons, List.not_mem_nil, or_false, not_or, not_false_eq_true, List.nodup_nil, and_true] at nd
  obtain ⟨⟨n1, n2, n3, n4⟩, ⟨n5, n6, n7⟩, ⟨n8, n9⟩, n10⟩ := nd
  have ha := D.ha
  simp only [List.mem_cons, List.not_mem_nil, or_false, forall_eq_or_imp, forall_eq] at ha
  obtain ⟨⟨a1, b1⟩, ⟨a2, b2⟩, ⟨a3, b3⟩, ⟨a4, b4⟩, ⟨a5, b5⟩⟩ := ha
  exact ⟨Ne.symm n1, Ne.symm n2, n5, n6, by simp, by simp [n3, a1], by simp [n8, a3], n7, by simp, by simp [n4, b1], by simp [n9, b3], by simp [n10, b4], by simp [Ne.symm n10, a5]⟩
section
variable {h h' : Heap} {a : Addr} {t : Bool} {its : Array Value}
theorem AtK.keep (q : AtK t h a its) (k : ∀ o, h.get? a = some o → h'.get? a = some o) : AtK t h' a its := by
  cases t with
  | true => exact Heap.IsTuple.at q k
  | false => exact Heap.IsList.at q k
theorem AtK.obj (q : AtK t h a its) : ∃ o, h.get? a = some o := by
  cases t with
  | true => obtain ⟨o, e, _⟩ := q; exact ⟨o, e⟩
  | false => obtain ⟨o, e, _⟩ := q; exact ⟨o, e⟩
end
section
variable {prog : Program} {w : World} {A : Around} {E : Value → Shared → Prop} {s : Shared} {zz ti to i1 i2 tt : Addr} {fp1 fp2 : List Addr} {n1 n2 i : Nat} {P1 P2 : Nat → Value → Prop} {St1 St2 : Nat → Heap → Prop} {f : Bool} {oT : PySem.Obj}
/-- the next pair of a zip whose last pair is still out -/
theorem zipH_go {Q : Value → Shared → Prop} (S : ZipSep2 zz ti to i1 i2 fp1 fp2) (D1 : Draws prog w A i1 fp1 n1 P1 St1) (D2 : Draws prog w A i2 fp2 n2 P2 St2) (hz : IsZipHeld s.heap zz ti to tt f) (hT : s.heap.get? tt = some oT) (hti : IsTupOf2 s.heap ti (.ref i1) (.ref i2)) (q1 : St1 i s.heap) (q2 : St2 i s.heap) (l1 : i < n1) (l2 : i < n2)
    (hQ : ∀ x1 x2 g tk, P1 i x1 → P2 i x2 → IsZipHeld g zz ti to tt true → St1 (i + 1) g → St2 (i + 1) g → IsTupOf2 g s.heap.objs.size x1 x2 → (∀ c o, c ≠ zz → c ≠ i1 → c ≠ i2 → s.heap.get? c = some o → g.get? c = some o) → Q (.ref s.heap.objs.size) { s with heap := g, toks := tk }) :
    wpAny (model prog w) A (Builtin.«zip.__next__» ⟨[.ref zz], []⟩) (fun fin s' => ∃ v, fin = .done (.ret v) ∧ Q v s') E s := by
  obtain ⟨hp, gs, dr, tk0, os⟩ := s
  show wpAny _ _ (field (.ref zz) 2 >>= _) _ _ _; refine wpAny_bind (wpAny_field hz rfl (x := .bool false) rfl ?_)
  show wpAny _ _ (field (.ref zz) 3 >>= _) _ _ _; refine wpAny_bind (wpAny_field hz rfl (x := .ref ti) rfl (wpAny_bind (wpAny_seqItems hti rfl ?_)))
  show wpAny _ _ (Builtin.SmallTypes.ownedTupleIsFree (.ref zz) >>= _) _ _ _; refine wpAny_bind (wpAny_tupleHeld_zip hz hT fun g1 z1 s1 => ?_)
  replace s1 : Heap.SameBut zz hp g1 := s1
  simp only [Bool.false_eq_true, if_false]; refine wpAny_bind ?_; rw [← Array.forIn_toList]; simp only [List.forIn_cons, List.forIn_nil]
  refine wpAny_bind (wpAny_bind (wpAny_holding ?_)); show wpAny _ _ (Builtin.SmallTypes.nextOf (.ref i1) >>= _) _ _ ⟨g1, gs, dr, tk0, os⟩
  refine wpAny_bind (D1.item i _ _ _ l1 (D1.over q1 s1 S.zf1) fun x1 g2 tk2 y1 r1 s2 => wpAny_pure (wpAny_pure ?_))
  replace s2 : Heap.SameBut i1 g1 g2 := s2
  refine wpAny_bind (wpAny_bind (wpAny_holding ?_)); show wpAny _ _ (Builtin.SmallTypes.nextOf (.ref i2) >>= _) _ _ ⟨g2, gs, dr, tk2, os⟩
  refine wpAny_bind (D2.item i _ _ _ l2 (D2.over (D2.over q2 s1 S.zf2) s2 S.sep1_2) fun x2 g3 tk3 y2 r2 s3 => wpAny_pure (wpAny_pure (wpAny_pure ?_)))
  replace s3 : Heap.SameBut i2 g2 g3 := s3
  show wpAny _ _ (newTuple [x1, x2] >>= _) _ _ ⟨g3, gs, dr, tk3, os⟩; refine wpAny_bind (wpAny_newTuple (wpAny_pure ⟨_, rfl, ?_⟩))
  have hsz : g3.objs.size = hp.objs.size := by rw [s3.1, s2.1, s1.1]
  have z3 : IsZipHeld g3 zz ti to tt true := s3.extBut _ _ S.zi2 (s2.extBut _ _ S.zi1 z1)
  have nw : IsTupOf2 (g3.push { cls := .type "tuple", data := .seq #[x1, x2] }) g3.objs.size x1 x2 := Heap.get?_push_size _ rfl
  show Q (.ref g3.objs.size) ⟨g3.push { cls := .type "tuple", data := .seq #[x1, x2] }, gs, dr, tk3, os⟩
  rw [hsz] at nw ⊢
  refine hQ x1 x2 _ tk3 y1 y2 (Heap.get?_push_of_some _ z3) (D1.frame _ _ _ (D1.over r1 s3 S.sep2_1) fun b _ o e => Heap.get?_push_of_some _ e) (D2.frame _ _ _ r2 fun b _ o e => Heap.get?_push_of_some _ e) nw fun c o c1 c2 c3 e => Heap.get?_push_of_some _ (s3.extBut _ _ c3 (s2.extBut _ _ c2 (s1.extBut _ _ c1 e)))
theorem zipH_end {Q : Fin → Shared → Prop} (S : ZipSep2 zz ti to i1 i2 fp1 fp2) (D1 : Draws prog w A i1 fp1 n1 P1 St1) (D2 : Draws prog w A i2 fp2 n2 P2 St2) (hz : IsZipHeld s.heap zz ti to tt f) (hT : s.heap.get? tt = some oT) (hti : IsTupOf2 s.heap ti (.ref i1) (.ref i2)) (q1 : St1 i s.heap) (q2 : St2 i s.heap) (l1 : i ≤ n1) (l2 : i ≤ n2) (le : i = n1 ∨ i = n2)
    (hE : ∀ g tk e, (∀ c o, c ≠ zz → c ≠ i1 → c ≠ i2 → s.heap.get? c = some o → g.get? c = some o) → (∃ o, g.get? e = some o ∧ o.cls = .type "StopIteration") → E (.ref e) { s with heap := g, toks := tk }) :
    wpAny (model prog w) A (Builtin.«zip.__next__» ⟨[.ref zz], []⟩) Q E s := by
  obtain ⟨hp, gs, dr, tk0, os⟩ := s
  show wpAny _ _ (field (.ref zz) 2 >>= _) _ _ _; refine wpAny_bind (wpAny_field hz rfl (x := .bool false) rfl ?_)
  show wpAny _ _ (field (.ref zz) 3 >>= _) _ _ _; refine wpAny_bind (wpAny_field hz rfl (x := .ref ti) rfl (wpAny_bind (wpAny_seqItems hti rfl ?_)))
  show wpAny _ _ (Builtin.SmallTypes.ownedTupleIsFree (.ref zz) >>= _) _ _ _; refine wpAny_bind (wpAny_tupleHeld_zip hz hT fun g1 z1 s1 => ?_)
  replace s1 : Heap.SameBut zz hp g1 := s1
  simp only [Bool.false_eq_true, if_false]; refine wpAny_bind ?_; rw [← Array.forIn_toList]; simp only [List.forIn_cons, List.forIn_nil]
  refine wpAny_bind (wpAny_bind (wpAny_holding ?_)); show wpAny _ _ (Builtin.SmallTypes.nextOf (.ref i1) >>= _) _ _ ⟨g1, gs, dr, tk0, os⟩
  by_cases lt : i < n1
  · refine wpAny_bind (D1.item i _ _ _ lt (D1.over q1 s1 S.zf1) fun x1 g2 tk2 y1 r1 s2 => wpAny_pure (wpAny_pure ?_))
    replace s2 : Heap.SameBut i1 g1 g2 := s2
    have e2 : i = n2 := by omega
    refine wpAny_bind (wpAny_bind (wpAny_holding ?_)); show wpAny _ _ (Builtin.SmallTypes.nextOf (.ref i2) >>= _) _ _ ⟨g2, gs, dr, tk2, os⟩
    refine wpAny_bind (D2.done ⟨g2, gs, dr, tk2, os⟩ _ _ (by rw [← e2]; exact D2.over (D2.over q2 s1 S.zf2) s2 S.sep1_2) fun g3 e s3 he => ?_)
    exact hE g3 tk2 e (fun c o c1 c2 c3 x => s3 _ _ c3 (s2.extBut _ _ c2 (s1.extBut _ _ c1 x))) he
  · have e1 : i = n1 := by omega
    refine wpAny_bind (D1.done ⟨g1, gs, dr, tk0, os⟩ _ _ (by rw [← e1]; exact D1.over q1 s1 S.zf1) fun g2 e s2 he => ?_)
    exact hE g2 tk0 e (fun c o c1 c2 _ x => s2 _ _ c2 (s1.extBut _ _ c1 x)) he
theorem nextH_go {Q : Option Value → Shared → Prop} (S : ZipSep2 zz ti to i1 i2 fp1 fp2) (D1 : Draws prog w A.in1 i1 fp1 n1 P1 St1) (D2 : Draws prog w A.in1 i2 fp2 n2 P2 St2) (hz : IsZipHeld s.heap zz ti to tt f) (hT : s.heap.get? tt = some oT) (hti : IsTupOf2 s.heap ti (.ref i1) (.ref i2)) (q1 : St1 i s.heap) (q2 : St2 i s.heap) (l1 : i < n1) (l2 : i < n2)
    (hQ : ∀ x1 x2 g tk, P1 i x1 → P2 i x2 → IsZipHeld g zz ti to tt true → St1 (i + 1) g → St2 (i + 1) g → IsTupOf2 g s.heap.objs.size x1 x2 → (∀ c o, c ≠ zz → c ≠ i1 → c ≠ i2 → s.heap.get? c = some o → g.get? c = some o) → Q (some (.ref s.heap.objs.size)) { s with heap := g, toks := tk }) : wpAny (model prog w) A (pyNext (.ref zz)) Q E s := by
  have ty : s.TypeIs (.ref zz) "zip" := ⟨_, hz, rfl⟩
  unfold pyNext
  exact wpAny_bind (wpAny_attempt (wpAny_callSpecial?_slot (name := Str.ofString "__next__") ty F.slot_zip_next (wpAny_call_entry F.slot_zip_next ty F.entry_zip_next (zipH_go S D1 D2 hz hT hti q1 q2 l1 l2 fun x1 x2 g tk k1 k2 k3 k4 k5 k6 k7 => wpAny_pure (hQ x1 x2 g tk k1 k2 k3 k4 k5 k6 k7)) (F.args_zip_next_1 _))))
theorem nextH_end {Q : Option Value → Shared → Prop} (S : ZipSep2 zz ti to i1 i2 fp1 fp2) (D1 : Draws prog w A.in1 i1 fp1 n1 P1 St1) (D2 : Draws prog w A.in1 i2 fp2 n2 P2 St2) (hz : IsZipHeld s.heap zz ti to tt f) (hT : s.heap.get? tt = some oT) (hti : IsTupOf2 s.heap ti (.ref i1) (.ref i2)) (q1 : St1 i s.heap) (q2 : St2 i s.heap) (l1 : i ≤ n1) (l2 : i ≤ n2) (le : i = n1 ∨ i = n2)
    (hQ : ∀ g tk, (∀ c o, c ≠ zz → c ≠ i1 → c ≠ i2 → s.heap.get? c = some o → g.get? c = some o) → Q none { s with heap := g, toks := tk }) : wpAny (model prog w) A (pyNext (.ref zz)) Q E s := by
  have ty : s.TypeIs (.ref zz) "zip" := ⟨_, hz, rfl⟩
  unfold pyNext
  refine wpAny_bind (wpAny_attempt (wpAny_callSpecial?_slot (name := Str.ofString "__next__") ty F.slot_zip_next (wpAny_call_entry F.slot_zip_next ty F.entry_zip_next (zipH_end S D1 D2 hz hT hti q1 q2 l1 l2 le fun g tk e hk he => ?_) (F.args_zip_next_1 _))))
  obtain ⟨o, ho, hc⟩ := he
  exact wpAny_bind (wpAny_isInstance (T := "StopIteration") (b := true) ⟨o, ho, hc⟩ isSubtype_stop (wpAny_pure (hQ _ _ hk)))
end
def Zb2 (t1 t2 : Bool) (zz ti to i1 i2 a b : Addr) (xs ys : Array Value) (h : Heap) : Prop := IsZip h zz ti to .none ∧ IsTupOf2 h ti (.ref i1) (.ref i2) ∧ (∃ u v, IsTupOf2 h to u v) ∧ GoK t1 h i1 a 0 ∧ GoK t2 h i2 b 0 ∧ AtK t1 h a xs ∧ AtK t2 h b ys
theorem pairArg_zip {prog : Program} {w : World} (t1 t2 : Bool) {zz ti to i1 i2 a b : Addr} (D : Sep2 zz ti to i1 i2 a b) (xs ys : Array Value) :
    PairArg prog w "zip" zz [zz, ti, to, i1, i2, a, b] [zz, to, i1, i2] (min xs.size ys.size) (fun i k v => xs[i]? = some k ∧ ys[i]? = some v) (Zb2 t1 t2 zz ti to i1 i2 a b xs ys) := by
  have S := D.zs
  have ha := D.ha
  simp only [List.mem_cons, List.not_mem_nil, or_false, forall_eq_or_imp, forall_eq] at ha
  obtain ⟨⟨a1, b1⟩, ⟨a2, b2⟩, ⟨a3, b3⟩, ⟨a4, b4⟩, ⟨a5, b5⟩⟩ := ha
  refine ⟨fun s ok => ⟨_, ok.1, rfl⟩, by decide, fun h h' ok hk => ?_, fun h ok c hc => ?_, fun c hc => ?_, fun A s Q E hA ok h => getAttrOr_miss_zip ok.1 rfl rfl rfl zip_no_keys (by decide +kernel) hA h, fun A s d Q E hA ok hd hdf h => ?_⟩
  · obtain ⟨hz, hti, ⟨u, v, hto⟩, g1, g2, k1, k2⟩ := ok
    exact ⟨hk _ _ hz, hk _ _ hti, ⟨u, v, hk _ _ hto⟩, g1.keep (hk i1), g2.keep (hk i2), k1.keep (hk a), k2.keep (hk b)⟩
  · obtain ⟨hz, hti, ⟨u, v, hto⟩, g1, g2, k1, k2⟩ := ok
    simp only [List.mem_cons, List.not_mem_nil, or_false] at hc
    rcases hc with e | e | e | e | e | e | e
    · rw [e]; exact ⟨_, hz⟩
    · rw [e]; exact ⟨_, hti⟩
    · rw [e]; exact ⟨_, hto⟩
    · rw [e]; obtain ⟨o, q, _⟩ := g1.obj; exact ⟨o, q⟩
    · rw [e]; obtain ⟨o, q, _⟩ := g2.obj; exact ⟨o, q⟩
    · rw [e]; exact k1.obj
    · rw [e]; exact k2.obj
  · simp only [List.mem_cons, List.not_mem_nil, or_false] at hc ⊢
    rcases hc with e | e | e | e <;> simp [e]
  · obtain ⟨hz, hti, ⟨u, v, hto⟩, g1, g2, k1, k2⟩ := ok
    simp only [List.mem_cons, List.not_mem_nil, or_false, not_or] at hdf
    obtain ⟨dz, dti, dto, di1, di2, da, db⟩ := hdf
    have hA' : A.in1.handled = none := hA
    have D1 := drawsK (t := t1) (prog := prog) (w := w) hA' (Ne.symm a4) xs
    have D2 := drawsK (t := t2) (prog := prog) (w := w) hA' (Ne.symm b5) ys
    refine wpAny_pyIter_zip hz (h zz [zz, to, i1, i2] (fun i g => IsTupOf2 g ti (.ref i1) (.ref i2) ∧ (GoK t1 g i1 a i ∧ AtK t1 g a xs) ∧ (GoK t2 g i2 b i ∧ AtK t2 g b ys) ∧ ((IsZip g zz ti to .none ∧ ∃ u v, IsTupOf2 g to u v) ∨ ∃ T f oT, IsZipHeld g zz ti to T f ∧ g.get? T = some oT ∧ T ≠ zz ∧ T ≠ i1 ∧ T ≠ i2 ∧ T ≠ d)) s.heap s.toks ?_ ⟨hti, ⟨g1, k1⟩, ⟨g2, k2⟩, .inl ⟨hz, u, v, hto⟩⟩ (fun _ _ e => e) fun c hc => .inl hc)
    refine ⟨fun hm => ?_, fun i h1 h2 st hk => ?_, fun i s1 Q1 E1 hi st hds hQ => ?_, fun s1 Q1 E1 st hQ => ?_⟩
    · simp only [List.mem_cons, List.not_mem_nil, or_false] at hm
      rcases hm with e | e | e | e
      · exact dz e
      · exact dto e
      · exact di1 e
      · exact di2 e
    · obtain ⟨hti, ⟨g1, k1⟩, ⟨g2, k2⟩, hz⟩ := st
      refine ⟨hk _ _ (Ne.symm dti) hti, ⟨g1.keep fun o e => hk _ o (Ne.symm di1) e, k1.keep fun o e => hk _ o (Ne.symm da) e⟩, ⟨g2.keep fun o e => hk _ o (Ne.symm di2) e, k2.keep fun o e => hk _ o (Ne.symm db) e⟩, ?_⟩
      rcases hz with ⟨hz, u, v, hto⟩ | ⟨T, f, oT, hz, hT, r1, r2, r3, r4⟩
      · exact .inl ⟨hk _ _ (Ne.symm dz) hz, u, v, hk _ _ (Ne.symm dto) hto⟩
      · exact .inr ⟨T, f, oT, hk _ _ (Ne.symm dz) hz, hk _ _ r4 hT, r1, r2, r3, r4⟩
    · obtain ⟨hti, s1', s2', hz⟩ := st
      have lt : ∀ {c o}, s1.heap.get? c = some o → s1.heap.objs.size ≠ c := fun e => Nat.ne_of_gt (Heap.lt_size e)
      have n1 : s1.heap.objs.size ≠ i1 := let ⟨_, e, _⟩ := s1'.1.obj; lt e
      have n2 : s1.heap.objs.size ≠ i2 := let ⟨_, e, _⟩ := s2'.1.obj; lt e
      rcases hz with ⟨hz, u, v, hto⟩ | ⟨T, f, oT, hz, hT, r1, r2, r3, r4⟩
      · refine wpAny_pyNext_zipD2_item S D1 D2 hz hti hto s1' s2' (by omega) (by omega) fun x1 x2 g tk y1 y2 z' to' q1 q2 nw hsz hk => ?_
        refine hQ s1.heap.objs.size x1 x2 g tk ⟨y1, y2⟩ (.inl ⟨_, nw, rfl, _, rfl⟩) ⟨hk _ _ S.TIz S.TITO S.TIi1 S.TIi2 hti, q1, q2, .inr ⟨s1.heap.objs.size, false, _, z', nw, lt hz, n1, n2, Nat.ne_of_gt hds⟩⟩ fun c o hc e => ?_
        simp only [List.mem_cons, List.not_mem_nil, or_false, not_or] at hc
        exact hk c o hc.1 hc.2.1 hc.2.2.1 hc.2.2.2 e
      · refine nextH_go S D1 D2 hz hT hti s1' s2' (by omega) (by omega) fun x1 x2 g tk y1 y2 z' q1 q2 nw hk => ?_
        refine hQ s1.heap.objs.size x1 x2 g tk ⟨y1, y2⟩ (.inl ⟨_, nw, rfl, _, rfl⟩) ⟨hk _ _ S.TIz S.TIi1 S.TIi2 hti, q1, q2, .inr ⟨T, true, oT, z', hk _ _ r1 r2 r3 hT, r1, r2, r3, r4⟩⟩ fun c o hc e => ?_
        simp only [List.mem_cons, List.not_mem_nil, or_false, not_or] at hc
        exact hk c o hc.1 hc.2.2.1 hc.2.2.2 e
    · obtain ⟨hti, s1', s2', hz⟩ := st
      rcases hz with ⟨hz, u, v, hto⟩ | ⟨T, f, oT, hz, hT, r1, r2, r3, r4⟩
      · refine wpAny_pyNext_zipD2_end S D1 D2 hz hti hto s1' s2' (by omega) (by omega) (by omega) fun g tk hk => hQ g tk fun c o hc e => ?_
        simp only [List.mem_cons, List.not_mem_nil, or_false, not_or] at hc
        exact hk c o hc.1 hc.2.1 hc.2.2.1 hc.2.2.2 e
      · refine nextH_end S D1 D2 hz hT hti s1' s2' (by omega) (by omega) (by omega) fun g tk hk => hQ g tk fun c o hc e => ?_
        simp only [List.mem_cons, List.not_mem_nil, or_false, not_or] at hc
        exact hk c o hc.1 hc.2.2.1 hc.2.2.2 e
end DL
set_option Elab.async false
set_option linter.all false
set_option maxRecDepth 100000
set_option maxHeartbeats 1000000
namespace DL
open PySem PySem.Spec PyProof.Rows L2
def zipL (xs : List Str) (ys : List V) : List (Leaf × V) := (xs.zip ys).map fun kv => (.text kv.1, kv.2)
def tDictZ (W : Wd) (ta : TA) : TE := fun σ H Q => ta σ H fun vs H1 => ∃ a b t1 t2 xs ys, vs = [.ref a, .ref b] ∧ SqK t1 W.K H1 a (xs.map V.str) ∧ SqK t2 W.K H1 b ys ∧ xs.length ≤ 1000 ∧ xs.Nodup ∧ ∀ p, H1 p = none → Q (.ref p) (upd H1 p (leafO W p (zipL xs ys)))
theorem merged_nodup {K : Type} [DecidableEq K] : ∀ {more kvs : List (K × Value)}, ((kvs ++ more).map (·.1)).Nodup → merged kvs more = kvs ++ more
  | [], kvs, h => by simp [merged]
  | p :: ps, kvs, h => by
    have hn : (kvs.any fun kv => decide (kv.1 = p.1)) = false := by
      rw [List.any_eq_false]
      intro q hq hq2
      rw [List.map_append, List.nodup_append] at h
      exact absurd (of_decide_eq_true hq2) (h.2.2 _ (List.mem_map.mpr ⟨q, hq, rfl⟩) _ (by simp))
    have e : stored kvs p.1 p.2 = kvs ++ [(p.1, p.2)] := by
      unfold stored
      simp [hn]
    show merged (stored kvs p.1 p.2) ps = _
    rw [e, merged_nodup (by simpa using h)]
    simp
theorem zip_keys {xs : List Str} (ys : List Value) (h : xs.Nodup) : (((xs.zip ys).map fun kv => ((Leaf.text kv.1, kv.2) : Leaf × Value)).map (·.1)).Nodup := by
  have e : ((xs.zip ys).map fun kv => ((Leaf.text kv.1, kv.2) : Leaf × Value)).map (·.1) = ((xs.zip ys).map (·.1)).map Leaf.text := by rw [List.map_map, List.map_map]; rfl
  rw [e]
  have s : ∀ (xs : List Str) (ys : List Value), ((xs.zip ys).map (·.1)).Sublist xs := by
    intro xs
    induction xs with
    | nil => intro ys; simp
    | cons x xs ih =>
      intro ys
      cases ys with
      | nil => simp
      | cons y ys => simp only [List.zip_cons_cons, List.map_cons]; exact (ih ys).cons₂ x
  exact List.Pairwise.map _ (fun a b hne k => hne (by injection k)) (h.sublist (s xs ys))
theorem kv_zip : ∀ {xs : List Str} {ys : List V} {us : List Value}, Vals ys us → KV (zipL xs ys) ((xs.zip us).map fun kv => (Leaf.text kv.1, kv.2))
  | [], ys, us, _ => by simp [zipL]; exact .nil
  | x :: xs, ys, us, r => by
    cases r with
    | nil => simp [zipL]; exact .nil
    | cons h t =>
      have := kv_zip (xs := xs) t
      simp only [zipL, List.zip_cons_cons, List.map_cons] at this ⊢
      exact .cons ⟨rfl, h⟩ this
theorem pe_dictZ {X : Cx} {W : Wd} {e e2 : Expr} {ta : TA} {p p2 q pos : Pos} (hP : W.P = X.prog) (hw : W.w = X.w) (hK : W.K = X.K) (hcalm : X.calm = true) (hg : Gl X "dict") (hm : X.mg "dict" = none) (hg2 : Gl X "zip") (hm2 : X.mg "zip" = none) (ha : PA X [e, e2] ta)
    (hs : starEach [e, e2] X.env = (false, eval e X.env) :: starEach [e2] X.env := by rfl) (hpl : (backTo q (starEach [e2] X.env)).any (·.1) = false := by rfl) :
    PE X (.Call (.Name "dict" p) [.Call (.Name "zip" p2) [e, e2] [] q] [] pos) (tDictZ W ta) := by
  constructor
  intro pins s σ H Q I h
  refine Call_ (ld_blt I hg hm PyProof.Rows.boot_dict ?_)
  refine PyProof.Rows.callWith_type1 (PyProof.Rows.args_cons ?_ rfl) rfl rfl
  refine Call_ (ld_blt I hg2 hm2 PyProof.Rows.boot_zip (PyProof.Rows.callWith_type1 (thn (ha.run q pins s σ H _ I h) fun us s1 hq => ?_) hs hpl))
  obtain ⟨vs, H1, I1, r1, a, b, t1, t2, xs, ys, rfl, s1', s2', hl, hn, qq⟩ := hq
  cases r1 with | cons r rr => ?_
  cases rr with | cons r' rr => ?_
  cases rr
  cases r
  cases r'
  rw [hK] at s1' s2'
  obtain ⟨its1, v1, p1, la⟩ := inv_K I1 s1'
  obtain ⟨its2, v2, p2', lb⟩ := inv_K I1 s2'
  refine zip_begins2 (beginsK (t := t1) its1.toArray) (beginsK (t := t2) its2.toArray) p1 p2' fun h' hz hti hto b1 b2 hsz hk => PyProof.Rows.args_nil ?_
  have D : Sep2 (s1.heap.objs.size + 4) (s1.heap.objs.size + 2) (s1.heap.objs.size + 3) s1.heap.objs.size (s1.heap.objs.size + 1) a b := ⟨five_nd _, fun c hc => by
    have hle := five_ge _ _ hc
    exact ⟨Ne.symm (Nat.ne_of_lt (Nat.lt_of_lt_of_le la hle)), Ne.symm (Nat.ne_of_lt (Nat.lt_of_lt_of_le lb hle))⟩⟩
  have I2 : Inv X pins σ H1 { s1 with heap := h' } := I1.kept (t' := s1.toks) hk
  have l1 : its1.length = xs.length := by have := v1.length; simp at this; omega
  have hstr : ∀ i v, its1[i]? = some v → ∃ x t, xs[i]? = some x ∧ v = Value.str x t := fun i v hv => strs_at v1 i v hv
  refine PySem.call_dict_pairs (knd := leafKind X.prog X.w) (kvs := (xs.zip its2).map fun kv => (Leaf.text kv.1, kv.2)) (s := { s1 with heap := h' }) (pairArg_zip t1 t2 D its1.toArray its2.toArray) (I1.ok.hd hcalm) ⟨hz, hti, ⟨_, _, hto⟩, GoK.beg b1, GoK.beg b2, p1.keep (hk a), p2'.keep (hk b)⟩ ⟨?_, fun i key v hr => ?_⟩ (le_size (by simp; omega)) fun h'' tk hd'' k => ?_
  · simp
    omega
  · obtain ⟨e1, e2⟩ := hr
    obtain ⟨x, t, hx, rfl⟩ := hstr i key (by simpa using e1)
    refine ⟨.text x, ?_, by show (x == x) = true; simp⟩
    rw [List.getElem?_map, List.zip, List.getElem?_zipWith, hx, show its2[i]? = some v by simpa using e2]
    rfl
  · rw [merged_nodup (by rw [List.nil_append]; exact zip_keys _ hn), List.nil_append] at hd''
    have hm : (h'.objs.size == sysModules) = false := beq_eq_false_iff_ne.mpr (Nat.ne_of_gt I2.big)
    have hsz' : s1.heap.objs.size ≤ h'.objs.size := by rw [hsz]; exact Nat.le_add_right _ _
    have k' : ∀ b u, s1.heap.get? b = some u → h''.get? b = some u := fun b u e => k b u (fun hc => by
      have hle : s1.heap.objs.size ≤ b := five_ge _ _ (by simp only [List.mem_cons, List.not_mem_nil, or_false] at hc ⊢; rcases hc with e | e | e | e <;> simp [e])
      exact absurd (Heap.lt_size e) (Nat.not_lt_of_le hle)) (hk b u e)
    have hlen : (zipL xs ys).length ≤ sizeLine := le_size (by unfold zipL; simp; omega)
    exact ⟨.ref h'.objs.size, _, I1.laid (t' := tk) k' hsz' (lf_new hP hw hlen hm (kv_zip v2) hd''), rfl, qq _ (I1.hok.fresh hsz')⟩
def rGetF (W : Wd) : V → List V → Hp → VK → Prop := fun x xs H Q => ∃ a kvs k d, x = .ref a ∧ xs = [lV k, d] ∧ H a = some (leafO W a kvs) ∧ Q ((valV kvs k).getD d) H
theorem mt_getF {X : Cx} {W : Wd} (hP : W.P = X.prog) (hw : W.w = X.w) : MtR X "dict.get" (rGetF W) := by
  intro pins s σ H x xs v us Q I rx r h
  obtain ⟨a, kvs, k, d, rfl, rfl, e, q⟩ := h
  cases rx
  match us, r with
  | [_, _], .cons r1 (.cons r2 .nil) =>
  obtain ⟨_, hd, us', rel, dd⟩ := lf_of hP hw I e
  refine call_meetsIn PySem.F.slot_dict_get dd.typeIs PySem.F.entry_dict_get (PySem.F.args_dict_get_3 _ _ _) (meets_dict_get_default (leafKind X.prog X.w) a (lV_is r1) hd _) ⟨_, dd.mapOf, _, H, I.tok _, (rel.val k).getD r2, q⟩
def tGetF (W : Wd) (to : TE) (t : TA) : TE := fun σ H Q => to σ H fun x H1 => (∃ a kvs, x = .ref a ∧ H1 a = some (leafO W a kvs)) ∧ t σ H1 fun xs H2 => rGetF W x xs H2 Q
theorem pe_getF {X : Cx} {W : Wd} {o e : Expr} {es : List Expr} {to : TE} {t : TA} {apos cpos : Pos} (hP : W.P = X.prog) (hw : W.w = X.w) (ho : PE X o to) (ha : PA X (e :: es) t)
    (hbase : attributeBase o "get" X.env (eval o X.env) = eval o X.env := by rfl)
    (hfew : ((backTo cpos (starEach (e :: es) X.env)).all (fun x => !x.1) && (backToKw cpos (keywordEach [] X.env)).all (fun x => x.1.isSome) && decide ((e :: es).length + ([] : List Keyword).length + (if ([] : List Keyword).isEmpty then 0 else 1) < 30)) = true := by rfl)
    (hline : (apos.endLine == cpos.line) = true := by rfl) (hs : starEach (e :: es) X.env = (false, eval e X.env) :: starEach es X.env := by rfl) (hpl : (backTo cpos (starEach es X.env)).any (·.1) = false := by rfl) :
    PE X (.Call (.Attribute o "get" apos) (e :: es) [] cpos) (tGetF W to t) := by
  constructor
  intro pins s σ H Q I h
  refine wpAny_Call_method_late hbase hfew hline rfl (thn (ho.run pins s σ H _ I h) fun v s1 hq => ?_)
  obtain ⟨x, H1, I1, r1, ⟨a, kvs, rfl, ea⟩, q1⟩ := hq
  cases r1
  obtain ⟨_, hd, us', rel, dd⟩ := lf_of hP hw I1 ea
  refine ⟨"dict", "dict.get", PySem.F.plainAttrs_dict, PySem.F.slot_dict_get, PySem.F.type_dict_get, dd.typeIs, fun b eb => dd.mapOf.noDict b eb, ?_⟩
  have hA := ha.run cpos pins s1 σ H1 _ I1 q1
  rw [hs] at hA ⊢
  refine Calls.callWith_builtin (by show (false || (backTo cpos (starEach es X.env)).any (·.1)) = false; rw [hpl] <;> rfl) (Calls.evalArgs_plain (thn hA fun us s2 hq => ?_))
  obtain ⟨vs, H2, I2, r2, q2⟩ := hq
  exact mt_getF hP hw pins s2 σ H2 (.ref a) vs (.ref a) us Q I2 rfl r2 q2
section
variable {W : Wd} {Z : Zn} {G F H : Hp} {ρ : Ro} {M : Mu} {Q2 : DQ} {tx : TA} {te : TE} {d e : DV} {kvs : KVs}
def zipKV (zs : List Str) (es : List DV) : KVs := (zs.zip es).map fun kv => (.text kv.1, kv.2)
theorem kd_zip : ∀ {zs : List Str} {es : List DV} {ys : List V}, DatL W G es ys → KD W G (zipKV zs es) (zipL zs ys)
  | [], es, ys, _ => .nil
  | z :: zs, [], ys, h => by rw [datL_nil.mp h]; exact .nil
  | z :: zs, e :: es, ys, h => by
    obtain ⟨y, r, rfl, h1, h2⟩ := datL_cons.mp h
    have := kd_zip (zs := zs) h2
    simp only [zipKV, zipL, List.zip_cons_cons, List.map_cons] at this ⊢
    exact .cons h1 this
theorem we_dictZ {P : Program} {w : World} {K : PySem.W.Frag} (hW : Z.W = ⟨P, w, K⟩) (h : WA Z tx ρ M fun as M1 => ∃ d e zs es, as = [d, e] ∧ (d = .lst (zs.map DV.s) ∨ d = .tup (zs.map DV.s)) ∧ (e = .lst es ∨ e = .tup es) ∧ zs.length ≤ 1000 ∧ zs.Nodup ∧ Q2 (dlD (zipKV zs es)) M1) : WE Z (tDictZ ⟨P, w, K⟩ tx) ρ M Q2 := by
  rw [← hW]
  intro G σ H Q s r E k
  refine h G σ H _ s r E fun as vs G' M' H' s' r' hd hq => ?_
  obtain ⟨d, e, zs, es, rfl, h1, h2, hl, hn, q⟩ := hq
  obtain ⟨y1, y2, rfl, e1, e2⟩ := two_of hd
  obtain ⟨a, t1, xs, rfl, k1, d1⟩ := sqK_of h1 e1
  obtain ⟨b, t2, ys, rfl, k2, d2⟩ := sqK_of h2 e2
  rw [datL_str d1] at k1
  refine ⟨a, b, t1, t2, zs, ys, rfl, k1 _ r'.ex, k2 _ r'.ex, hl, hn, fun p hp => ?_⟩
  obtain ⟨us, eu, du⟩ := (kd_zip (zs := zs) d2).back
  have sn := same_new (o := leafO Z.W p (zipL zs ys)) (r'.gnone hp)
  refine k _ _ _ _ _ (s'.trans sn) (r'.new hp) (dat_dl.mpr ⟨p, us, rfl, ?_, by simp, du.mono sn⟩) q
  rw [← eu]
  exact upd_same
theorem we_getF {P : Program} {w : World} {K : PySem.W.Frag} (hW : Z.W = ⟨P, w, K⟩) (h : WE Z te ρ M fun d M1 => ∃ kvs, d = dlD kvs ∧ WA Z tx ρ M1 fun as M2 => ∃ k e, as = [lD k, e] ∧ Q2 ((valL kvs k).getD e) M2) : WE Z (tGetF ⟨P, w, K⟩ te tx) ρ M Q2 := by
  rw [← hW]
  intro G σ H Q s r E kk
  refine h G σ H _ s r E fun d v G' M' H' s' r' hd hq => ?_
  obtain ⟨kvs, rfl, hq⟩ := hq
  obtain ⟨a, qs, rfl, e1, e2⟩ := dl_at r' hd (.inl rfl)
  refine ⟨⟨a, qs, rfl, e1⟩, hq G' σ H' _ (s.trans s') r' (E.mono s') fun as vs G2 M2 H2 s2 r2 hd2 hq2 => ?_⟩
  obtain ⟨k, e, rfl, q⟩ := hq2
  obtain ⟨y1, y2, rfl, f1, f2⟩ := two_of hd2
  rw [lD_v] at f1
  obtain rfl := dat_v.mp f1
  obtain ⟨a', qs', ev, e1', e2'⟩ := dl_at r2 (hd.mono s2) (.inl rfl)
  injection ev with ev
  subst ev
  refine ⟨a, qs', k, y2, rfl, rfl, e1', ?_⟩
  obtain ⟨g1, g2⟩ := e2'.val (k := k)
  refine kk _ _ G2 M2 H2 (s'.trans s2) r2 ?_ q
  cases ek : valL kvs k with
  | some dd =>
    obtain ⟨v, ev, dv⟩ := g1 dd ek
    rw [ev]
    exact dv
  | none =>
    rw [ek] at g2
    cases ev : valV qs' k with
    | some v => rw [ev] at g2; cases g2
    | none => exact f2
end
end DL
set_option Elab.async false
set_option linter.all false
namespace DL
open PySem PySem.Spec PyProof.Rows L2
def lookI (cs : List Str) (row : List Int) (z : Str) : Option Int := ((cs.zip row).find? fun kv => decide (kv.1 = z)).map (·.2)
theorem lookI_pos {c z : Str} {cs : List Str} {v : Int} {row : List Int} (e : c = z) : lookI (c :: cs) (v :: row) z = some v := by
  unfold lookI
  rw [List.zip_cons_cons, List.find?_cons_of_pos (by simpa using e)]
  rfl
theorem lookI_neg {c z : Str} {cs : List Str} {v : Int} {row : List Int} (e : ¬ c = z) : lookI (c :: cs) (v :: row) z = lookI cs row z := by
  unfold lookI
  rw [List.zip_cons_cons, List.find?_cons_of_neg (by simpa using e)]
theorem val_zip : ∀ (cs : List Str) (row : List Int) (z : Str), valL (zipKV cs (row.map DV.i)) (.text z) = (lookI cs row z).map DV.i
  | [], row, z => rfl
  | c :: cs, [], z => rfl
  | c :: cs, v :: row, z => by
    show valL ((.text c, DV.i v) :: zipKV cs (row.map DV.i)) (.text z) = _
    by_cases e : c = z
    · rw [valL_pos (by rw [e]), lookI_pos e]
      rfl
    · rw [valL_neg (by intro k; injection k with k; exact e k), lookI_neg e, val_zip cs row z]
theorem lookI_some : ∀ {cs : List Str} {row : List Int} {z : Str}, row.length = cs.length → z ∈ cs → ∃ v, lookI cs row z = some v
  | [], row, z, _, h => by cases h
  | c :: cs, [], z, h, _ => by simp at h
  | c :: cs, v :: row, z, h, hz => by
    by_cases e : c = z
    · exact ⟨v, lookI_pos e⟩
    · rw [lookI_neg e]
      exact lookI_some (by simpa using h) ((List.mem_cons.mp hz).resolve_left (Ne.symm e))
def goesB (cs : List Str) (row : List Int) (zs : List Str) (r : List Int) : Bool := (zs.zip r).all fun x => decide ((lookI cs row x.1).getD x.2 = x.2)
def moreF (cs zs : List Str) : List Str := zs.filter fun z => !decide (z ∈ cs)
def extR (more zs : List Str) (o row : List Int) : List Int := row ++ more.map fun z => (lookI zs o z).getD 0
abbrev CR := List Str × List (List Int)
def withR (cs zs : List Str) (held : List (List Int)) (row : List Int) : List (List Int) := (held.filter (goesB cs row zs)).map fun o => extR (moreF cs zs) zs o row
def stepJ (b t : CR) : CR := (b.1 ++ moreF b.1 t.1, b.2.flatMap (withR b.1 t.1 t.2))
def joinF (ts : List CR) : CR := ts.foldl stepJ ([], [[]])
theorem joinF_snoc (ts : List CR) (t : CR) : joinF (ts ++ [t]) = stepJ (joinF ts) t := by
  unfold joinF
  rw [List.foldl_append]
  rfl
structure JOk (b : CR) : Prop where
  nd : b.1.Nodup
  wid : ∀ r ∈ b.2, r.length = b.1.length
theorem more_nd {cs zs : List Str} (h1 : cs.Nodup) (h2 : zs.Nodup) : (cs ++ moreF cs zs).Nodup := by
  rw [List.nodup_append]
  refine ⟨h1, h2.sublist List.filter_sublist, fun x hx y hy e => ?_⟩
  subst e
  have := (List.mem_filter.mp hy).2
  simp at this
  exact this hx
theorem stepJ_ok {b t : CR} (h : JOk b) (h2 : t.1.Nodup) : JOk (stepJ b t) := by
  refine ⟨more_nd h.nd h2, fun r hr => ?_⟩
  obtain ⟨row, hrow, hr⟩ := List.mem_flatMap.mp hr
  obtain ⟨o, _, rfl⟩ := List.mem_map.mp hr
  unfold stepJ extR
  simp [h.wid row hrow]
theorem joinF_ok : ∀ {ts : List CR} {b : CR}, JOk b → (∀ t ∈ ts, t.1.Nodup) → JOk (ts.foldl stepJ b)
  | [], b, h, _ => h
  | t :: ts, b, h, h2 => joinF_ok (ts := ts) (stepJ_ok h (h2 t List.mem_cons_self)) fun x hx => h2 x (List.mem_cons_of_mem _ hx)
theorem jok_nil : JOk (([], [[]]) : CR) := ⟨List.nodup_nil, fun r hr => by simp at hr; subst hr; rfl⟩
theorem joinF_names : ∀ {ts : List CR} {b : CR} {P : Str → Prop}, (∀ z ∈ b.1, P z) → (∀ t ∈ ts, ∀ z ∈ t.1, P z) → ∀ z ∈ (ts.foldl stepJ b).1, P z
  | [], b, P, h, _ => h
  | t :: ts, b, P, h, h2 => joinF_names (ts := ts) (fun z hz => by
      rcases List.mem_append.mp hz with k | k
      · exact h z k
      · exact h2 t List.mem_cons_self z (List.mem_filter.mp k).1) fun x hx => h2 x (List.mem_cons_of_mem _ hx)
theorem flat_len {α β : Type} {f : α → List β} {n : Nat} : ∀ {l : List α}, (∀ x ∈ l, (f x).length ≤ n) → (l.flatMap f).length ≤ l.length * n
  | [], _ => by simp
  | x :: l, h => by
    rw [List.flatMap_cons, List.length_append, List.length_cons, Nat.add_mul]
    have h1 := h x List.mem_cons_self
    have h2 := flat_len (l := l) fun y hy => h y (List.mem_cons_of_mem _ hy)
    omega
theorem withR_len {cs zs : List Str} {held : List (List Int)} {row : List Int} : (withR cs zs held row).length ≤ held.length := by
  unfold withR
  rw [List.length_map]
  exact List.length_filter_le _ _
theorem zip2_row (zs : List Str) (r : List Int) : zip2D (zs.map DV.s) (r.map DV.i) = (zs.zip r).map fun x => DV.tup [.s x.1, .i x.2] := by
  unfold zip2D
  induction zs generalizing r with
  | nil => rfl
  | cons z zs ih =>
    cases r with
    | nil => rfl
    | cons a r =>
      simp only [List.map_cons, List.zip_cons_cons, List.zipWith_cons_cons]
      rw [← ih]
theorem foldJ_len : ∀ (ts : List CR) (b : CR), b.1.length ≤ (ts.foldl stepJ b).1.length
  | [], b => Nat.le_refl _
  | t :: ts, b => Nat.le_trans (by show b.1.length ≤ (b.1 ++ _).length; rw [List.length_append]; omega) (foldJ_len ts (stepJ b t))
theorem joinF_pre (ts : List CR) (i : Nat) : (joinF (ts.take i)).1.length ≤ (joinF ts).1.length := by
  have := foldJ_len (ts.drop i) (joinF (ts.take i))
  have e : (ts.drop i).foldl stepJ (joinF (ts.take i)) = joinF ts := by
    unfold joinF
    rw [← List.foldl_append, List.take_append_drop]
  rw [e] at this
  exact this
theorem mapD_get {α : Type} {f : α → DV} {l : List α} {i : Nat} {d : DV} (h : (l.map f)[i]? = some d) : ∃ c, l[i]? = some c ∧ d = f c := by
  rw [List.getElem?_map] at h
  cases e : l[i]? with
  | none => rw [e] at h; cases h
  | some c => rw [e] at h; cases h; exact ⟨c, rfl, rfl⟩
theorem take_snoc {α : Type} {l : List α} {i : Nat} {x : α} (h : l[i]? = some x) : l.take (i + 1) = l.take i ++ [x] := by
  rw [List.take_add_one, h]
  rfl
/-- a loop at the end of a body, the store changing -/
theorem loop_SE {Z : Zn} {ρ : Ro} {ts : TS} {D2 : Ends2} {g : TG} {β : Type} (is : List Nat) (S : β → Mu) (I : Nat → β → Prop) {b0 : β} {items : List DV} (h0 : I 0 b0)
    (hs : ∀ (i : Nat) d b, items[i]? = some d → I i b → WG Z g d (wipe2 ρ is) (S b) fun ρ1 M1 => WS Z ts { nx := fun ρ2 M2 => wipe2 ρ2 is = wipe2 ρ is ∧ ∃ b', I (i + 1) b' ∧ M2 = S b', rt := D2.rt, bk := D2.nx, ct := fun ρ2 M2 => wipe2 ρ2 is = wipe2 ρ is ∧ ∃ b', I (i + 1) b' ∧ M2 = S b' } ρ1 M1)
    (hk : ∀ ρ2 b, wipe2 ρ2 is = wipe2 ρ is → I items.length b → D2.nx ρ2 (S b)) : Loop Z g ts D2 items ρ (S b0) := by
  refine loop_word (fun j ρ2 M2 => wipe2 ρ2 is = wipe2 ρ is ∧ ∃ b, I j b ∧ M2 = S b) items 0 ρ _ ⟨rfl, b0, h0, rfl⟩ (fun i d ρ2 M2 hi h => ?_) fun ρ2 M2 h => ?_
  · rw [Nat.zero_add] at h ⊢
    obtain ⟨h1, b, h2, rfl⟩ := h
    refine wg_env is ?_
    rw [h1]
    exact hs i d b hi h2
  · rw [Nat.zero_add] at h
    obtain ⟨h1, b, h2, rfl⟩ := h
    exact hk ρ2 b h1 h2
end DL
set_option Elab.async false
set_option linter.all false
set_option maxRecDepth 100000
namespace DL
open PySem PySem.Spec PyProof.Rows L2
def tPk (is : List Nat) (m : Nat) (dvl : List V) (tk : TA) : TA := fun σ H Q => tk σ H fun zs H2 => zs.length = m ∧ Q (pick is zs ++ dvl) H2
theorem wa_pk {Z : Zn} {ρ : Ro} {M : Mu} {is : List Nat} {m : Nat} {dvl : List V} {tk : TA} {P2 : List DV → Mu → Prop} (h : WA Z tk ρ M fun es M1 => es.length = m ∧ P2 (pick is es ++ dvl.map DV.v) M1) : WA Z (tPk is m dvl tk) ρ M P2 := fun G σ H Q s R E r =>
  h G σ H _ s R E fun es vs G1 M1 H1 s1 R1 x ⟨l, q⟩ => ⟨by rw [x.length]; exact l, r _ _ G1 M1 H1 s1 R1 ((datL_pick x is).append (datL_v dvl)) q⟩
section
variable {K : PySem.W.Frag} {x qual : Str} {st : Stmt} {dvs : List V} {f : Addr} {fd : FuncData} {ps ks : List Str} {n : Nat}
theorem kbnP (is : List Nat) (F : Df K x qual st [] f fd)
    (h : ∀ (kV doc pm : Value) (an : Option Addr) (cdv ct : Value) (us ws : List Value), us.length = n → ws.length = ks.length → bindArgs (PySem.W.fnOf x qual (defArgs st) (defBody st) (defScope st) .none kV doc pm an cdv ct) ⟨us, ks.zip ws⟩ = pure (ps.zip (us ++ (pick is ws ++ [])))) :
    KBn K fd ps n ks (fun us ws => us ++ (pick is ws ++ [])) (fun us ws => us ++ (pick is ws ++ [])) where
  to := fun s us ws X h0 hl => by
    obtain ⟨oc, od, dV, kV, doc, pm, an, cdv, ct, osl, rfl, lk, hcd, hD, hK⟩ := F.ex
    rcases hD with ⟨_, rfl⟩ | ⟨e, _⟩
    · exact .of_eq (h kV doc pm an cdv ct us ws h0 hl)
    · exact absurd rfl e
  rel := fun r rz => r.append ((show Vals _ _ from paired_pick rz is).append (show Vals [] [] from .nil))
end
section
variable {X : Cx} {CX : CXT} {k : Nat} {f C : Addr} {fd : FuncData} {ps ks : List Str} {sp : Sp} {E : XK} {x m : Str} {p pos apos : Pos} {o : Expr} {kws : List Keyword} {ta : TE} {tk : TA} {is : List Nat} {its : List Value} {dvl : List V}
theorem pe_callP (F : FnOk X.prog X.w X.K X.mg X.base CX k f fd ps sp) (hr : Room k X.A) (hg : Gl X x) (hm : X.mg x = some (.ref f)) (hk : PySem.W.keepIn X.K (.ref f) = true) (hb : KBn X.K fd ps 0 ks (fun us ws => us ++ (pick is ws ++ its)) (fun us ws => us ++ (pick is ws ++ dvl))) (hx : Passes CX X E) (hkw : PK X kws tk)
    (hall : (backToKw pos (keywordEach kws X.env)).all (·.1.isSome) = true := by rfl) (hks : (backToKw pos (keywordEach kws X.env)).filterMap (·.1) = ks := by rfl) (hdb : (x == ("__debug__" : Str)) = false := by decide)
    (hpl : ((backTo pos (starEach [] X.env)).any (·.1) || (backToKw pos (keywordEach kws X.env)).any (·.1.isNone)) = false := by rfl) :
    PE X (.Call (.Name x p) [] kws pos) (tCall sp [] E (tPk is ks.length dvl tk)) := by
  have h := pe_callK0 (p := p) F hr hg hm hk hb hx hkw hall hks hdb hpl
  constructor
  intro pins s σ H Q I q
  refine h.run pins s σ H Q I ?_
  have e : (fun (zs : List V) H2 => ([] : List V).length = 0 ∧ zs.length = ks.length ∧ sp ([] ++ (pick is zs ++ dvl)) H2 Q E) = fun zs H2 => zs.length = ks.length ∧ sp ((pick is zs ++ dvl) ++ []) H2 Q E := by
    funext zs H2
    simp
  show tk σ H (fun (zs : List V) H2 => ([] : List V).length = 0 ∧ zs.length = ks.length ∧ sp ([] ++ (pick is zs ++ dvl)) H2 Q E)
  rw [e]
  exact q
end
end DL
set_option Elab.async false
set_option linter.all false
namespace DL
open PySem PySem.Spec PyProof.Rows L2
def sat (v : Str → Int) (t : CR) : Prop := t.1.map v ∈ t.2
structure TOk (t : CR) : Prop where
  nd : t.1.Nodup
  wid : ∀ r ∈ t.2, r.length = t.1.length
  rnd : t.2.Nodup
theorem lookI_mapV (v : Str → Int) : ∀ {zs : List Str} {z : Str}, z ∈ zs → lookI zs (zs.map v) z = some (v z)
  | [], z, h => by cases h
  | c :: cs, z, h => by
    rw [List.map_cons]
    by_cases e : c = z
    · rw [lookI_pos e, e]
    · rw [lookI_neg e]
      exact lookI_mapV v ((List.mem_cons.mp h).resolve_left (Ne.symm e))
/-- a row over unlike names is told by its values -/
def valR (zs : List Str) (r : List Int) (z : Str) : Int := (lookI zs r z).getD 0
theorem map_valR : ∀ {zs : List Str} {r : List Int}, zs.Nodup → r.length = zs.length → zs.map (valR zs r) = r
  | [], r, _, h => by
    have : r = [] := List.length_eq_zero_iff.mp (by simpa using h)
    rw [this]
    rfl
  | c :: cs, [], _, h => by simp at h
  | c :: cs, v :: r, hn, h => by
    have hn' := List.nodup_cons.mp hn
    rw [List.map_cons]
    congr 1
    · unfold valR
      rw [lookI_pos rfl]
      rfl
    · refine Eq.trans (List.map_congr_left fun z hz => ?_) (map_valR (zs := cs) (r := r) hn'.2 (by simpa using h))
      unfold valR
      rw [lookI_neg (fun e : c = z => hn'.1 (by rw [e]; exact hz))]
theorem zip_mapV (v : Str → Int) (zs : List Str) : zs.zip (zs.map v) = zs.map fun z => (z, v z) := by
  induction zs with
  | nil => rfl
  | cons z zs ih => rw [List.map_cons, List.zip_cons_cons, ih, List.map_cons]
theorem goesB_iff {cs zs : List Str} {v u : Str → Int} : goesB cs (cs.map v) zs (zs.map u) = true ↔ ∀ z ∈ zs, z ∈ cs → v z = u z := by
  unfold goesB
  rw [zip_mapV, List.all_eq_true]
  refine ⟨fun h z hz hc => ?_, fun h x hx => ?_⟩
  · have := h (z, u z) (List.mem_map.mpr ⟨z, hz, rfl⟩)
    rw [lookI_mapV v hc] at this
    simpa using this
  · obtain ⟨z, hz, rfl⟩ := List.mem_map.mp hx
    by_cases hc : z ∈ cs
    · rw [lookI_mapV v hc]
      simpa using h z hz hc
    · have : lookI cs (cs.map v) z = none := by
        unfold lookI
        rw [zip_mapV, List.find?_eq_none.mpr]
        · rfl
        · intro y hy
          obtain ⟨w, hw, rfl⟩ := List.mem_map.mp hy
          rw [decide_eq_true_eq]
          exact fun e => hc (by rw [← e]; exact hw)
      rw [this]
      simp
theorem extR_map {cs zs : List Str} {v u : Str → Int} : extR (moreF cs zs) zs (zs.map u) (cs.map v) = (cs ++ moreF cs zs).map fun z => if z ∈ cs then v z else u z := by
  unfold extR
  rw [List.map_append]
  congr 1
  · exact List.map_congr_left fun z hz => (if_pos hz).symm
  · refine List.map_congr_left fun z hz => ?_
    have h := List.mem_filter.mp hz
    have hc : z ∉ cs := by simpa using h.2
    rw [lookI_mapV u h.1, if_neg hc]
    rfl
theorem map_inj_on {zs : List Str} {v u : Str → Int} (h : zs.map v = zs.map u) : ∀ z ∈ zs, v z = u z := fun z hz => List.map_inj_left.mp h z hz
theorem stepJ_sat {b t : CR} (hb : TOk b) (ht : TOk t) (v : Str → Int) : sat v (stepJ b t) ↔ sat v b ∧ sat v t := by
  unfold sat stepJ
  rw [List.mem_flatMap]
  refine ⟨fun ⟨row, hrow, h⟩ => ?_, fun ⟨h1, h2⟩ => ⟨b.1.map v, h1, ?_⟩⟩
  · obtain ⟨o, ho, e⟩ := List.mem_map.mp h
    obtain ⟨ho, hg⟩ := List.mem_filter.mp ho
    have er := map_valR hb.nd (hb.wid row hrow)
    have eo := map_valR ht.nd (ht.wid o ho)
    rw [← er, ← eo] at hg e
    rw [extR_map] at e
    have hv := map_inj_on e
    have hg' := goesB_iff.mp hg
    have e1 : b.1.map v = row := by
      rw [← er]
      exact List.map_congr_left fun z hz => by
        have := hv z (List.mem_append_left _ hz)
        rw [if_pos hz] at this
        exact this.symm
    have e2 : t.1.map v = o := by
      rw [← eo]
      refine List.map_congr_left fun z hz => ?_
      by_cases hc : z ∈ b.1
      · have := hv z (List.mem_append_left _ hc)
        rw [if_pos hc] at this
        rw [← this]
        exact hg' z hz hc
      · have := hv z (List.mem_append_right _ (List.mem_filter.mpr ⟨hz, by simpa using hc⟩))
        rw [if_neg hc] at this
        exact this.symm
    exact ⟨e1 ▸ hrow, e2 ▸ ho⟩
  · refine List.mem_map.mpr ⟨t.1.map v, List.mem_filter.mpr ⟨h2, goesB_iff.mpr fun _ _ _ => rfl⟩, ?_⟩
    rw [extR_map]
    exact List.map_congr_left fun z _ => by by_cases hc : z ∈ b.1 <;> simp [hc]
theorem nodup_mapOn {α β : Type} {f : α → β} : ∀ {l : List α}, l.Nodup → (∀ x ∈ l, ∀ y ∈ l, f x = f y → x = y) → (l.map f).Nodup
  | [], _, _ => by simp
  | x :: l, hn, h => by
    have hn' := List.nodup_cons.mp hn
    rw [List.map_cons, List.nodup_cons]
    refine ⟨fun k => ?_, nodup_mapOn hn'.2 fun y hy w hw => h y (List.mem_cons_of_mem _ hy) w (List.mem_cons_of_mem _ hw)⟩
    obtain ⟨y, hy, e⟩ := List.mem_map.mp k
    have := h y (List.mem_cons_of_mem _ hy) x List.mem_cons_self e
    exact hn'.1 (by rw [← this]; exact hy)
theorem nodup_flat {α β : Type} {f : α → List β} : ∀ {l : List α}, l.Nodup → (∀ x ∈ l, (f x).Nodup) → (∀ x ∈ l, ∀ y ∈ l, ∀ z, z ∈ f x → z ∈ f y → x = y) → (l.flatMap f).Nodup
  | [], _, _, _ => by simp
  | x :: l, hn, h1, h2 => by
    have hn' := List.nodup_cons.mp hn
    rw [List.flatMap_cons, List.nodup_append]
    refine ⟨h1 x List.mem_cons_self, nodup_flat hn'.2 (fun y hy => h1 y (List.mem_cons_of_mem _ hy)) fun y hy w hw => h2 y (List.mem_cons_of_mem _ hy) w (List.mem_cons_of_mem _ hw), fun a ha b hb e => ?_⟩
    subst e
    obtain ⟨y, hy, hz⟩ := List.mem_flatMap.mp hb
    have := h2 x List.mem_cons_self y (List.mem_cons_of_mem _ hy) a ha hz
    exact hn'.1 (this ▸ hy)
theorem stepJ_tok {b t : CR} (hb : TOk b) (ht : TOk t) : TOk (stepJ b t) := by
  have j := stepJ_ok ⟨hb.nd, hb.wid⟩ ht.nd
  refine ⟨j.nd, j.wid, ?_⟩
  unfold stepJ
  refine nodup_flat hb.rnd (fun row hrow => ?_) fun x hx y hy z h1 h2 => ?_
  · unfold withR
    refine nodup_mapOn (ht.rnd.sublist List.filter_sublist) fun o ho o' ho' e => ?_
    obtain ⟨ho, hg⟩ := List.mem_filter.mp ho
    obtain ⟨ho', hg'⟩ := List.mem_filter.mp ho'
    have er := map_valR hb.nd (hb.wid row hrow)
    have eo := map_valR ht.nd (ht.wid o ho)
    have eo' := map_valR ht.nd (ht.wid o' ho')
    rw [← er, ← eo] at hg
    rw [← er, ← eo'] at hg'
    rw [← er, ← eo, ← eo', extR_map, extR_map] at e
    have hv := map_inj_on e
    have g := goesB_iff.mp hg
    have g' := goesB_iff.mp hg'
    rw [← eo, ← eo']
    refine List.map_congr_left fun z hz => ?_
    by_cases hc : z ∈ b.1
    · rw [← g z hz hc, ← g' z hz hc]
    · have := hv z (List.mem_append_right _ (List.mem_filter.mpr ⟨hz, by simpa using hc⟩))
      simpa [hc] using this
  · obtain ⟨o, _, rfl⟩ := List.mem_map.mp h1
    obtain ⟨o', _, e⟩ := List.mem_map.mp h2
    unfold extR at e
    exact (List.append_inj_left e (by rw [hb.wid x hx, hb.wid y hy])).symm
theorem fold_sat {ts : List CR} : ∀ {b : CR}, TOk b → (∀ t ∈ ts, TOk t) → TOk (ts.foldl stepJ b) ∧ ∀ v, sat v (ts.foldl stepJ b) ↔ sat v b ∧ ∀ t ∈ ts, sat v t := by
  induction ts with
  | nil => exact fun hb _ => ⟨hb, fun v => by simp⟩
  | cons t ts ih =>
    intro b hb ht
    have h1 := stepJ_tok hb (ht t List.mem_cons_self)
    obtain ⟨k1, k2⟩ := ih h1 fun x hx => ht x (List.mem_cons_of_mem _ hx)
    refine ⟨k1, fun v => ?_⟩
    rw [List.foldl_cons, k2 v, stepJ_sat hb (ht t List.mem_cons_self) v]
    simp [and_assoc]
theorem tok_nil : TOk (([], [[]]) : CR) := ⟨List.nodup_nil, fun r hr => by simp at hr; subst hr; rfl, by simp⟩
theorem joinF_tok {ts : List CR} (h : ∀ t ∈ ts, TOk t) : TOk (joinF ts) := (fold_sat tok_nil h).1
theorem joinF_sat {ts : List CR} (h : ∀ t ∈ ts, TOk t) (v : Str → Int) : sat v (joinF ts) ↔ ∀ t ∈ ts, sat v t := by
  have := (fold_sat tok_nil h).2 v
  rw [show joinF ts = ts.foldl stepJ ([], [[]]) from rfl, this]
  simp [sat]
theorem fold_cols {z : Str} : ∀ {ts : List CR} {b : CR}, z ∈ (ts.foldl stepJ b).1 ↔ z ∈ b.1 ∨ ∃ t ∈ ts, z ∈ t.1
  | [], b => by simp
  | t :: ts, b => by
    rw [List.foldl_cons, fold_cols (ts := ts)]
    unfold stepJ moreF
    simp only [List.mem_append, List.mem_filter, List.mem_cons, exists_eq_or_imp]
    by_cases hb : z ∈ b.1 <;> simp [hb, or_assoc]
theorem joinF_cols {ts : List CR} {z : Str} : z ∈ (joinF ts).1 ↔ ∃ t ∈ ts, z ∈ t.1 := by
  rw [show joinF ts = ts.foldl stepJ ([], [[]]) from rfl, fold_cols]
  simp
def prF (ts : List CR) : Nat := ts.foldl (fun n t => n * max 1 t.2.length) 1
theorem prF_fold : ∀ (ts : List CR) (n : Nat), ts.foldl (fun n t => n * max 1 t.2.length) n = n * prF ts
  | [], n => by simp [prF]
  | t :: ts, n => by
    rw [List.foldl_cons, prF_fold ts]
    have e : prF (t :: ts) = max 1 t.2.length * prF ts := by
      show (t :: ts).foldl (fun n t => n * max 1 t.2.length) 1 = _
      rw [List.foldl_cons, prF_fold ts, Nat.one_mul]
    rw [e, Nat.mul_assoc]
theorem prF_cons (t : CR) (ts : List CR) : prF (t :: ts) = max 1 t.2.length * prF ts := by
  unfold prF
  rw [List.foldl_cons, prF_fold, Nat.one_mul]
  rfl
theorem prF_append (ts us : List CR) : prF (ts ++ us) = prF ts * prF us := by
  unfold prF
  rw [List.foldl_append, prF_fold us]
  rfl
theorem prF_pos : ∀ ts : List CR, 1 ≤ prF ts
  | [] => Nat.le_refl _
  | t :: ts => by
    rw [prF_cons]
    have := prF_pos ts
    exact Nat.one_le_iff_ne_zero.mpr (Nat.mul_ne_zero (by omega) (by omega))
theorem fold_rows : ∀ (ts : List CR) (b : CR), (ts.foldl stepJ b).2.length ≤ b.2.length * prF ts
  | [], b => by simp [prF]
  | t :: ts, b => by
    rw [List.foldl_cons, prF_cons, ← Nat.mul_assoc]
    refine Nat.le_trans (fold_rows ts _) (Nat.mul_le_mul_right _ ?_)
    exact Nat.le_trans (flat_len (n := max 1 t.2.length) fun row _ => Nat.le_trans withR_len (by omega)) (Nat.le_refl _)
theorem joinF_rows (ts : List CR) : (joinF ts).2.length ≤ prF ts := by
  have := fold_rows ts ([], [[]])
  simpa [joinF] using this
theorem prF_take (ts : List CR) (i : Nat) : prF (ts.take i) ≤ prF ts := by
  have h := prF_append (ts.take i) (ts.drop i)
  rw [List.take_append_drop] at h
  rw [h]
  exact Nat.le_mul_of_pos_right _ (prF_pos _)
end DL
set_option Elab.async false
set_option linter.all false
namespace DL
open PySem PySem.Spec PyProof.Rows L2
section
variable {W : Wd} {Z : Zn} {G F H : Hp} {M : Mu} {Q2 : DQ} {x y d : DV} {ds : List DV}
theorem wc_min {i j : Int} (h : Q2 (.i (if j < i then j else i)) M) : WC Z (fun xs H Q => ∃ i j, xs = [.int i, .int j] ∧ Q (.int (if j < i then j else i)) H) [.i i, .i j] M Q2 := fun G H vs Q s R d r => by
  obtain ⟨y, z, rfl, h1, h2⟩ := two_of d
  rw [dat_v.mp h1, dat_v.mp h2]
  exact ⟨i, j, rfl, r (.i _) _ G M H (Same.refl G) R dat_v' h⟩
end
theorem bt_min : bootBuiltins "min" = some (.builtin "min") := by decide +kernel
end DL
set_option Elab.async false
set_option linter.all false
set_option maxRecDepth 100000
namespace DL
open PySem PySem.Spec PyProof.Rows L2
abbrev Stk := List (Option Str)
structure NSt where
  found : Prs
  stk : Stk
  name : Str
  shut : Bool
def NSt.top (s : NSt) : Option Str := s.stk.headD none
def NSt.isNew (s : NSt) : Bool := decide (s.name ≠ "") && decide (s.name ∉ namesOf s.found)
def NSt.ended (s : NSt) : Prs := if s.shut then s.found else s.found ++ [(s.name, s.top)]
def growB (s : NSt) (c : Nat) : Bool := if s.shut = true ∨ 8 < (s.name ++ chr c).length then false else decide ((s.name ++ chr c).length < 8) || decide (s.name ++ chr c ∉ namesOf s.found)
def takeF (s : NSt) (c : Nat) : Bool × NSt :=
  if c ∈ letters.cps.toList then (growB s c, { s with name := s.name ++ chr c })
  else if s.shut = false ∧ s.isNew = false then (false, s)
  else if (c = 40 ∧ s.shut = true) ∨ (c = 41 ∧ s.stk.length = 1) then (false, s)
  else if c = 41 then (true, ⟨s.ended, s.stk.tail, s.name, true⟩)
  else (decide (c = 40 ∨ c = 44) && decide (s.ended.length < 8), ⟨s.ended, if c = 40 then some s.name :: s.stk else s.stk, "", false⟩)
def runF : NSt → List Nat → Option NSt
  | s, [] => some s
  | s, c :: T => if (takeF s c).1 = true then runF (takeF s c).2 T else none
theorem tl_inj {x y : Str} (h : TL.tl x = TL.tl y) : x = y := by
  cases x with
  | mk a =>
    cases y with
    | mk b =>
      congr 1
      exact Array.toList_inj.mp h
theorem tl_emp : TL.tl ("" : Str) = [] := rfl
structure NI (s : NSt) : Prop where
  tr : TrF [] s.found
  few : s.found.length ≤ 8
  few' : s.shut = false → s.found.length < 8
  sin : ∀ c, some c ∈ s.stk → c ∈ namesOf s.found
  snd : s.stk.Nodup
  bot : s.stk.getLast? = some none
  let' : ∀ c ∈ TL.tl s.name, c ∈ letters.cps.toList
  len : s.name.length ≤ 8
theorem isNew_iff {s : NSt} : s.isNew = true ↔ s.name ≠ "" ∧ s.name ∉ namesOf s.found := by
  unfold NSt.isNew
  rw [Bool.and_eq_true, decide_eq_true_eq, decide_eq_true_eq]
theorem len_pos {x : Str} (h : x ≠ "") : 1 ≤ x.length := by
  rcases Nat.lt_or_ge x.length 1 with k | k
  · exfalso
    refine h (tl_inj ?_)
    rw [tl_emp]
    exact List.length_eq_zero_iff.mp (by rw [tl_len]; omega)
  · exact k
theorem NI.top_in {s : NSt} (h : NI s) : ∀ c, s.top = some c → c ∈ namesOf s.found := fun c e => by
  unfold NSt.top at e
  cases hs : s.stk with
  | nil => rw [hs] at e; cases e
  | cons o l =>
    rw [hs] at e
    exact h.sin c (by rw [hs]; exact List.mem_cons.mpr (.inl e.symm))
theorem NI.pair {s : NSt} (h : NI s) (hn : s.isNew = true) : okPair (namesOf s.found) (s.name, s.top) := by
  obtain ⟨h1, h2⟩ := isNew_iff.mp hn
  exact ⟨nameB_iff.mpr ⟨len_pos h1, h.len, h.let'⟩, h2, h.top_in⟩
theorem NI.ended_tr {s : NSt} (h : NI s) (hn : s.shut = true ∨ s.isNew = true) : Tr s.ended := by
  unfold NSt.ended
  cases hs : s.shut with
  | true => exact ⟨h.few, h.tr⟩
  | false =>
    have hn' : s.isNew = true := hn.resolve_left (by rw [hs]; simp)
    refine ⟨by have := h.few' hs; simp; omega, ?_⟩
    exact TrF.snoc h.tr (by rw [List.nil_append]; exact h.pair hn')
theorem ended_names {s : NSt} {c : Str} (h : c ∈ namesOf s.found) : c ∈ namesOf s.ended := by
  unfold NSt.ended
  split
  · exact h
  · rw [namesOf_app]
    exact List.mem_append_left _ h
theorem getLast_tail {l : Stk} (h : l.getLast? = some none) (h2 : l.length ≠ 1) : l.tail.getLast? = some none := by
  match l, h, h2 with
  | [_], _, h2 => exact absurd rfl h2
  | _ :: b :: l, h, _ => simpa using h
theorem NI.step {s : NSt} {c : Nat} (h : NI s) (ok : (takeF s c).1 = true) : NI (takeF s c).2 := by
  unfold takeF at ok ⊢
  by_cases h1 : c ∈ letters.cps.toList
  · rw [if_pos h1] at ok ⊢
    simp only at ok ⊢
    unfold growB at ok
    split at ok
    · cases ok
    · rename_i h2
      refine ⟨h.tr, h.few, h.few', h.sin, h.snd, h.bot, fun d hd => ?_, by show (s.name ++ chr c).length ≤ 8; omega⟩
      rw [show TL.tl (s.name ++ chr c) = TL.tl s.name ++ [c] from TL.tl_append _ _] at hd
      rcases List.mem_append.mp hd with k | k
      · exact h.let' d k
      · rw [List.mem_singleton.mp k]
        exact h1
  · rw [if_neg h1] at ok ⊢
    by_cases h2 : s.shut = false ∧ s.isNew = false
    · rw [if_pos h2] at ok
      cases ok
    · rw [if_neg h2] at ok ⊢
      have hn : s.shut = true ∨ s.isNew = true := by
        cases e : s.shut with
        | true => exact .inl rfl
        | false => exact .inr (by cases e2 : s.isNew with | true => rfl | false => exact absurd ⟨e, e2⟩ h2)
      have ht := h.ended_tr hn
      by_cases h3 : (c = 40 ∧ s.shut = true) ∨ (c = 41 ∧ s.stk.length = 1)
      · rw [if_pos h3] at ok
        cases ok
      · rw [if_neg h3] at ok ⊢
        by_cases h4 : c = 41
        · rw [if_pos h4]
          refine ⟨ht.ok, ht.len, fun e => (by cases e), fun d hd => ended_names (h.sin d (List.mem_of_mem_tail hd)), h.snd.sublist (List.tail_sublist _), getLast_tail h.bot fun e => h3 (.inr ⟨h4, e⟩), h.let', h.len⟩
        · rw [if_neg h4] at ok ⊢
          simp only [Bool.and_eq_true, decide_eq_true_eq] at ok
          refine ⟨ht.ok, by show s.ended.length ≤ 8; omega, fun _ => ok.2, fun d hd => ?_, ?_, ?_, fun d hd => by simp [tl_emp] at hd, by show ("" : Str).length ≤ 8; decide⟩
          · simp only at hd
            split at hd
            · rename_i h5
              rcases List.mem_cons.mp hd with k | k
              · cases k
                have hs : s.shut = false := by
                  cases e : s.shut with
                  | true => exact absurd (.inl ⟨h5, e⟩) h3
                  | false => rfl
                unfold NSt.ended
                rw [hs]
                simp [namesOf]
              · exact ended_names (h.sin d k)
            · exact ended_names (h.sin d hd)
          · simp only
            split
            · rename_i h5
              have hs : s.shut = false := by
                cases e : s.shut with
                | true => exact absurd (.inl ⟨h5, e⟩) h3
                | false => rfl
              rw [List.nodup_cons]
              exact ⟨fun k => (isNew_iff.mp (hn.resolve_left (by rw [hs]; simp))).2 (h.sin _ k), h.snd⟩
            · exact h.snd
          · simp only
            split
            · cases e : s.stk with
              | nil => have := h.bot; rw [e] at this; cases this
              | cons b l => rw [List.getLast?_cons_cons, ← e]; exact h.bot
            · exact h.bot
theorem NI.run : ∀ {T : List Nat} {s s' : NSt}, NI s → runF s T = some s' → NI s'
  | [], s, s', h, e => by cases e; exact h
  | c :: T, s, s', h, e => by
    unfold runF at e
    split at e
    · rename_i ok
      exact NI.run (T := T) (h.step ok) e
    · cases e
end DL
set_option Elab.async false
set_option linter.all false
set_option maxRecDepth 100000
namespace DL
open PySem PySem.Spec PyProof.Rows L2
theorem ended_shut {s : NSt} (h : s.shut = true) : s.ended = s.found := by unfold NSt.ended; rw [h]; rfl
theorem ended_open {s : NSt} (h : s.shut = false) : s.ended = s.found ++ [(s.name, s.top)] := by unfold NSt.ended; rw [h]; rfl
end DL
set_option Elab.async false
set_option linter.all false
set_option maxRecDepth 100000
namespace DL
open PySem PySem.Spec PyProof.Rows L2
end DL
set_option Elab.async false
set_option linter.all false
set_option maxRecDepth 100000
namespace DL
open PySem PySem.Spec PyProof.Rows L2
section
variable {F : Prs} {n : Str} {o : Option Str}
theorem kids_snoc (b : Option Str) : kidsOf (F ++ [(n, o)]) b = kidsOf F b ++ (if o = b then [n] else []) := kidsOf_snoc b
theorem ordF_far : ∀ (k : Nat) (b : Option Str), b ≠ o → (∀ c, o = some c → c ∉ ordF F k b) → ordF (F ++ [(n, o)]) k b = ordF F k b
  | 0, b, _, _ => rfl
  | k + 1, b, hb, h => by
    show (kidsOf (F ++ [(n, o)]) b).flatMap _ = (kidsOf F b).flatMap _
    rw [kids_snoc, if_neg (Ne.symm hb), List.append_nil]
    refine flatMap_congr' fun c hc => ?_
    have hin : ∀ d, d ∈ c :: ordF F k (some c) → d ∈ ordF F (k + 1) b := fun d hd => List.mem_flatMap.mpr ⟨c, hc, hd⟩
    rw [ordF_far k (some c) (fun e => h c e.symm (hin c List.mem_cons_self)) fun d e k2 => h d e (hin d (List.mem_cons_of_mem _ k2))]
theorem ord_far (t : Tr F) {b : Option Str} (hb : b ≠ o) (h : ∀ c, o = some c → c ∉ ord F b) : ord (F ++ [(n, o)]) b = ord F b := by
  have e : ordF F (F.length + 1) b = ord F b := ordF_more t (rk_le b) (Nat.le_succ _)
  show ordF (F ++ [(n, o)]) (F ++ [(n, o)]).length b = _
  rw [List.length_append, List.length_singleton, ordF_far (F.length + 1) b hb (fun c hc => by rw [e]; exact h c hc), e]
end
/-- one stands beneath the other as its last child, all the way down -/
def Chain (F : Prs) : Stk → Prop
  | [] => True
  | [_] => True
  | o :: b :: l => (∃ c, o = some c ∧ (kidsOf F b).getLast? = some c) ∧ Chain F (b :: l)
theorem chain_add {F : Prs} {n : Str} {o : Option Str} : ∀ {l : Stk}, (∀ b ∈ l.tail, b ≠ o) → Chain F l → Chain (F ++ [(n, o)]) l
  | [], _, _ => trivial
  | [_], _, _ => trivial
  | a :: b :: l, h, ⟨⟨c, h1, h2⟩, h3⟩ => ⟨⟨c, h1, by
      rw [kids_snoc, if_neg (Ne.symm (h b List.mem_cons_self)), List.append_nil]
      exact h2⟩, chain_add (fun x hx => h x (List.mem_cons_of_mem _ hx)) h3⟩
theorem chain_ord {F : Prs} {n : Str} {o : Option Str} (t : Tr F) (t' : Tr (F ++ [(n, o)])) : ∀ (l : Stk) (a : Option Str), (a :: l).Nodup → (o = a ∨ o ∉ a :: l) → Chain F (a :: l) → ord (F ++ [(n, o)]) a = ord F a ++ [n] → (o = a ∨ ∃ c, o = some c ∧ c ∈ ord F a) → ∀ b ∈ a :: l, ord (F ++ [(n, o)]) b = ord F b ++ [n]
  | [], a, _, _, _, ha, _ => fun b hb => by rw [List.mem_singleton.mp hb]; exact ha
  | b :: l, a, hn, ho, ⟨⟨c, e1, e2⟩, hch⟩, ha, hin => by
    have hn' := List.nodup_cons.mp hn
    have hob : b ≠ o := fun e => by
      rcases ho with k | k
      · exact hn'.1 (by rw [← k, ← e]; exact List.mem_cons_self)
      · exact k (by rw [← e]; exact List.mem_cons_of_mem _ List.mem_cons_self)
    obtain ⟨ini, ei⟩ : ∃ ini, kidsOf F b = ini ++ [c] := by
      have hne : kidsOf F b ≠ [] := fun e => by rw [e] at e2; cases e2
      refine ⟨(kidsOf F b).dropLast, ?_⟩
      have := List.dropLast_concat_getLast hne
      rw [List.getLast?_eq_some_getLast hne] at e2
      injection e2 with e2
      rw [e2] at this
      exact this.symm
    have hc : c ∈ kidsOf F b := by rw [ei]; simp
    have onb : ord F b = (ini.flatMap fun d => d :: ord F (some d)) ++ (c :: ord F (some c)) := by
      rw [ord_eq t b, ei, List.flatMap_append]
      simp
    have hoc : ∃ x, o = some x ∧ x ∈ c :: ord F (some c) := by
      rcases hin with k | ⟨x, k1, k2⟩
      · exact ⟨c, k.trans e1, List.mem_cons_self⟩
      · exact ⟨x, k1, List.mem_cons_of_mem _ (by rw [e1] at k2; exact k2)⟩
    obtain ⟨x, ex, hx⟩ := hoc
    have hdis : ∀ d ∈ ini, x ∉ d :: ord F (some d) := fun d hd k => by
      have nd := ord_nodup t b
      rw [onb] at nd
      exact (List.nodup_append.mp nd).2.2 x (List.mem_flatMap.mpr ⟨d, hd, k⟩) x hx rfl
    have hb : ord (F ++ [(n, o)]) b = ord F b ++ [n] := by
      rw [ord_eq t' b, kids_snoc, if_neg (Ne.symm hob), List.append_nil, ei, List.flatMap_append, onb]
      have h1 : ini.flatMap (fun d => d :: ord (F ++ [(n, o)]) (some d)) = ini.flatMap fun d => d :: ord F (some d) := flatMap_congr' fun d hd => by
        rw [ord_far t (fun e => hdis d hd (by rw [ex] at e; injection e with e; rw [e]; exact List.mem_cons_self)) fun y ey k => hdis d hd (by rw [ex] at ey; injection ey with ey; rw [ey]; exact List.mem_cons_of_mem _ k)]
      rw [h1]
      rw [e1] at ha
      simp [ha]
    have key := chain_ord t t' l b hn'.2 (.inr fun k => by
      rcases ho with h | h
      · exact hn'.1 (h ▸ k)
      · exact h (List.mem_cons_of_mem _ k)) hch hb (.inr ⟨x, ex, by rw [onb]; exact List.mem_append_right _ hx⟩)
    intro y hy
    rcases List.mem_cons.mp hy with k | k
    · rw [k]; exact ha
    · exact key y k
theorem ord_top {F : Prs} {n : Str} {o : Option Str} (t : Tr F) (t' : Tr (F ++ [(n, o)])) (hn : n ∉ namesOf F) (ho : inT F o) : ord (F ++ [(n, o)]) o = ord F o ++ [n] := by
  have hon : o ≠ some n := fun e => hn (ho n e)
  rw [ord_eq t' o, kids_snoc, if_pos rfl, List.flatMap_append, ord_eq t o]
  congr 1
  · refine flatMap_congr' fun c hc => ?_
    have hr := rk_kid t hc
    rw [ord_far t (fun e => by rw [e] at hr; omega) fun d ed k => by
      have := rk_ord t (n := F.length) k
      rw [ed] at hr
      omega]
  · have : ord (F ++ [(n, o)]) (some n) = [] := by
      rw [ord_eq t', kids_snoc, if_neg hon, List.append_nil, kids_out t hn]
      rfl
    simp [this]
/-- the order of what is told -/
structure PI (s : NSt) : Prop where
  ord_ : ord s.found none = namesOf s.found
  ch : Chain s.found s.stk
theorem NI.trF {s : NSt} (h : NI s) : Tr s.found := ⟨h.few, h.tr⟩
theorem PI.ended {s : NSt} (h : NI s) (p : PI s) (hn : s.shut = true ∨ s.isNew = true) : ord s.ended none = namesOf s.ended ∧ Chain s.ended s.stk ∧ (s.shut = false → Chain s.ended (some s.name :: s.stk)) := by
  cases hs : s.shut with
  | true => rw [ended_shut hs]; exact ⟨p.ord_, p.ch, fun e => by cases e⟩
  | false =>
    have hn' := hn.resolve_left (by rw [hs]; simp)
    have t' := h.ended_tr hn
    rw [ended_open hs] at t' ⊢
    have hnm := (isNew_iff.mp hn').2
    obtain ⟨o, l, hl⟩ : ∃ o l, s.stk = o :: l := by
      cases e : s.stk with
      | nil => have := h.bot; rw [e] at this; cases this
      | cons o l => exact ⟨o, l, rfl⟩
    have ht : s.top = o := by unfold NSt.top; rw [hl]; rfl
    have hnd : (o :: l).Nodup := hl ▸ h.snd
    have hch : Chain s.found (o :: l) := hl ▸ p.ch
    have hot : inT s.found o := fun c e => h.sin c (by rw [hl, e]; exact List.mem_cons_self)
    rw [ht] at t' ⊢
    have htop := ord_top h.trF t' hnm hot
    have hbot : none ∈ o :: l := by
      have := h.bot
      rw [hl] at this
      exact List.mem_of_getLast? this
    have ch1 : Chain (s.found ++ [(s.name, o)]) (o :: l) := chain_add (fun b hb e => (List.nodup_cons.mp hnd).1 (e ▸ hb)) hch
    refine ⟨?_, hl ▸ ch1, fun _ => ?_⟩
    · rw [chain_ord h.trF t' l o hnd (.inl rfl) hch htop (.inl rfl) none hbot, p.ord_, namesOf_app]
      rfl
    · rw [hl]
      refine ⟨⟨s.name, rfl, ?_⟩, ch1⟩
      rw [kids_snoc, if_pos rfl]
      simp
theorem chain_tail {F : Prs} : ∀ {l : Stk}, Chain F l → Chain F l.tail
  | [], _ => trivial
  | [_], _ => trivial
  | _ :: _ :: _, h => h.2
theorem PI.step {s : NSt} {c : Nat} (h : NI s) (p : PI s) (ok : (takeF s c).1 = true) : PI (takeF s c).2 := by
  unfold takeF at ok ⊢
  by_cases k1 : c ∈ letters.cps.toList
  · rw [if_pos k1]
    exact ⟨p.ord_, p.ch⟩
  rw [if_neg k1] at ok ⊢
  by_cases k2 : s.shut = false ∧ s.isNew = false
  · rw [if_pos k2] at ok; cases ok
  rw [if_neg k2] at ok ⊢
  have hn : s.shut = true ∨ s.isNew = true := by
    cases e : s.shut with
    | true => exact .inl rfl
    | false => exact .inr (by cases e2 : s.isNew with | true => rfl | false => exact absurd ⟨e, e2⟩ k2)
  obtain ⟨e1, e2, e3⟩ := p.ended h hn
  by_cases k3 : (c = 40 ∧ s.shut = true) ∨ (c = 41 ∧ s.stk.length = 1)
  · rw [if_pos k3] at ok; cases ok
  rw [if_neg k3] at ok ⊢
  by_cases k4 : c = 41
  · rw [if_pos k4]
    exact ⟨e1, chain_tail e2⟩
  · rw [if_neg k4]
    refine ⟨e1, ?_⟩
    show Chain s.ended (if c = 40 then some s.name :: s.stk else s.stk)
    split
    · rename_i k5
      refine e3 ?_
      cases e : s.shut with
      | true => exact absurd (.inl ⟨k5, e⟩) k3
      | false => rfl
    · exact e2
theorem PI.run : ∀ {T : List Nat} {s s' : NSt}, NI s → PI s → runF s T = some s' → PI s'
  | [], s, s', h, p, e => by cases e; exact p
  | c :: T, s, s', h, p, e => by
    rw [runF] at e
    split at e
    · rename_i ok
      exact PI.run (T := T) (h.step ok) (p.step h ok) e
    · cases e
end DL
set_option Elab.async false
set_option linter.all false
set_option maxRecDepth 100000
set_option maxHeartbeats 2000000
namespace DL
open PySem PySem.Spec PyProof.Rows L2
end DL
set_option Elab.async false
set_option linter.all false
set_option maxRecDepth 100000
namespace DL
open PySem PySem.Spec PyProof.Rows L2
end DL
set_option Elab.async false
set_option linter.all false
set_option maxRecDepth 100000
namespace DL
open PySem PySem.Spec PyProof.Rows L2
def lastS : List Nat := [107, 113, 120, 122, 106, 118, 119, 109]
def LN (b : List Str) : Prop := ∀ (k : Nat) z, b[k]? = some z → ∃ (w : List Nat) (x : Nat), w.length ≤ 7 ∧ (∀ c ∈ w, isL c) ∧ lastS[k]? = some x ∧ z = ⟨(w ++ [x]).toArray⟩
theorem LN.nil : LN [] := fun k z h => by simp at h
theorem lastS_is : ∀ x ∈ lastS, isL x := fun x hx => by
  simp only [lastS, List.mem_cons, List.not_mem_nil, or_false] at hx
  unfold isL
  omega
theorem lastS_nd : lastS.Nodup := by decide
theorem LN.snoc {b : List Str} {w : List Nat} {x : Nat} (h : LN b) (hw : w.length ≤ 7) (hl : ∀ c ∈ w, isL c) (hx : lastS[b.length]? = some x) : LN (b ++ [⟨(w ++ [x]).toArray⟩]) := fun k z e => by
  rcases Nat.lt_trichotomy k b.length with hk | hk | hk
  · rw [List.getElem?_append_left hk] at e
    exact h k z e
  · subst hk
    rw [List.getElem?_append_right (Nat.le_refl _), Nat.sub_self] at e
    cases e
    exact ⟨w, x, hw, hl, hx, rfl⟩
  · rw [List.getElem?_append_right (by omega)] at e
    rw [List.getElem?_eq_none (by simp; omega)] at e
    cases e
theorem LN.len {b : List Str} (h : LN b) : b.length ≤ 8 := by
  rcases Nat.lt_or_ge 8 b.length with k | k
  · obtain ⟨w, x, _, _, hx, _⟩ := h 8 _ (List.getElem?_eq_getElem k)
    cases hx
  · exact k
theorem LN.ok {b : List Str} (h : LN b) : Nms b where
  nm := fun z hz => by
    obtain ⟨k, hk⟩ := List.mem_iff_getElem?.mp hz
    obtain ⟨w, x, h1, h2, h3, rfl⟩ := h k z hk
    refine name_ok (by simp) (by simp; omega) fun c hc => ?_
    rcases List.mem_append.mp hc with k | k
    · exact h2 c k
    · rw [List.mem_singleton.mp k]
      exact lastS_is x (List.mem_of_getElem? h3)
  ok := fun z hz => by
    obtain ⟨k, hk⟩ := List.mem_iff_getElem?.mp hz
    obtain ⟨w, x, h1, h2, h3, rfl⟩ := h k z hk
    refine name_strOk fun c hc => ?_
    rcases List.mem_append.mp hc with k | k
    · exact h2 c k
    · rw [List.mem_singleton.mp k]
      exact lastS_is x (List.mem_of_getElem? h3)
  nd := by
    refine List.pairwise_iff_getElem.mpr fun i j hi hj hij e => ?_
    obtain ⟨w, x, _, _, h3, e1⟩ := h i _ (List.getElem?_eq_getElem (by omega))
    obtain ⟨w', x', _, _, h3', e1'⟩ := h j _ (List.getElem?_eq_getElem hj)
    rw [e1, e1'] at e
    have e2 : w ++ [x] = w' ++ [x'] := by
      have := congrArg TL.tl e
      exact this
    have e3 := List.append_inj_right' e2 rfl
    injection e3 with e3
    subst e3
    have h8 := h.len
    have := (List.getElem_inj lastS_nd).mp (((List.getElem?_eq_some_iff.mp h3).2).trans ((List.getElem?_eq_some_iff.mp h3').2).symm)
    omega
end DL
set_option Elab.async false
set_option linter.all false
set_option maxRecDepth 100000
namespace DL
open PySem PySem.Spec PyProof.Rows L2
end DL
set_option Elab.async false
set_option linter.all false
set_option maxRecDepth 100000
set_option maxHeartbeats 2000000
namespace DL
open PySem PySem.Spec PyProof.Rows L2
end DL
set_option Elab.async false
set_option linter.all false
set_option maxRecDepth 100000
set_option maxHeartbeats 2000000
namespace DL
open PySem PySem.Spec PyProof.Rows L2
def Sg (z : Str) : Prop := ∀ c ∈ z.cps.toList, c < 0x110000
theorem Sg.ok {z : Str} (h : Sg z) : PyData.strOk z = true := by
  unfold PyData.strOk
  rw [← Array.all_toList]
  exact List.all_eq_true.mpr fun c hc => decide_eq_true (h c hc)
end DL
namespace DL
open PySem PySem.Spec PyProof.Rows L2
theorem joinL_sg {p : Nat → Prop} {sep : List Nat} (hs : ∀ c ∈ sep, p c) : ∀ {l : List (List Nat)}, (∀ x ∈ l, ∀ c ∈ x, p c) → ∀ c ∈ TL.joinL sep l, p c
  | [], _ => fun c hc => by simp [TL.joinL] at hc
  | [x], h => fun c hc => h x (by simp) c (by simpa [TL.joinL] using hc)
  | x :: y :: l, h => fun c hc => by
    have ih := joinL_sg hs (l := y :: l) fun z hz => h z (List.mem_cons_of_mem _ hz)
    simp only [TL.joinL, List.mem_append] at hc
    rcases hc with hc | hc
    · first
        | exact h x (by simp) c hc
        | (rcases hc with k | k
           · exact h x (by simp) c k
           · exact hs c k)
    · first
        | exact ih c hc
        | (rcases hc with k | k
           · exact hs c k
           · exact ih c k)
theorem Sg.join {sep : Str} {l : List Str} (hs : Sg sep) (h : ∀ x ∈ l, Sg x) : Sg (Txt.join sep l) := fun c hc => by
  have hc : c ∈ TL.tl (Txt.join sep l) := hc
  rw [TL.join_eq, TL.tl_join] at hc
  refine joinL_sg (p := fun c => c < 0x110000) hs (fun x hx => ?_) c hc
  obtain ⟨y, hy, rfl⟩ := List.mem_map.mp hx
  exact h y hy
end DL
set_option Elab.async false
set_option linter.all false
set_option maxRecDepth 100000
set_option maxHeartbeats 2000000
namespace DL
open PySem PySem.Spec PyProof.Rows L2 LamX
end DL
set_option Elab.async false
set_option linter.all false
set_option maxRecDepth 100000
set_option maxHeartbeats 2000000
namespace DL
open PySem PySem.Spec PyProof.Rows L2 LamX
end DL
set_option Elab.async false
set_option linter.all false
set_option maxRecDepth 100000
set_option maxHeartbeats 2000000
namespace DL
open PySem PySem.Spec PyProof.Rows L2 LamX
end DL
set_option Elab.async false
set_option linter.all false
set_option maxRecDepth 100000
set_option maxHeartbeats 2000000
namespace DL
open PySem PySem.Spec PyProof.Rows L2 LamX
end DL
set_option Elab.async false
set_option linter.all false
set_option maxRecDepth 100000
set_option maxHeartbeats 2000000
namespace DL
open PySem PySem.Spec PyProof.Rows L2
inductive Alike (K : PySem.W.Frag) (H : Hp) : Nat → V → V → Prop
  | same {n : Nat} {x : V} (h : okV x = true) : Alike K H n x x
  | emp {n : Nat} {p q : Addr} (h1 : Rd H p (.dK [])) (h2 : Rd H q (.dK [])) : Alike K H n (.ref p) (.ref q)
  | tup {n : Nat} {p q : Addr} {xs ys : List V} (h1 : SqT K H p xs) (h2 : SqT K H q ys) (e : xs.length = ys.length) (a : ∀ (i : Nat) x y, xs[i]? = some x → ys[i]? = some y → Alike K H n x y) : Alike K H (n + 1) (.ref p) (.ref q)
  | lst {n : Nat} {p q : Addr} {xs ys : List V} (h1 : SqL K H p xs) (h2 : SqL K H q ys) (e : xs.length = ys.length) (a : ∀ (i : Nat) x y, xs[i]? = some x → ys[i]? = some y → Alike K H n x y) : Alike K H (n + 1) (.ref p) (.ref q)
section
variable {W : Wd} {Z : Zn} {G : Hp} {M : Mu} {Q2 : DQ} {d e : DV} {ds : List DV}
theorem Alike.mono {K : PySem.W.Frag} {G H : Hp} {n : Nat} {x y : V} (h : Alike K G n x y) (s : Same G H) : Alike K H n x y := by
  induction h with
  | same h => exact .same h
  | emp h1 h2 => exact .emp (Rd.same s h1) (Rd.same s h2)
  | tup h1 h2 e a ih => exact .tup (sqt_mono s h1) (sqt_mono s h2) e ih
  | lst h1 h2 e a ih => exact .lst (sql_mono s h1) (sql_mono s h2) e ih
end
end DL
set_option Elab.async false
set_option linter.all false
set_option maxRecDepth 100000
set_option maxHeartbeats 2000000
namespace DL
open PySem PySem.Spec PyProof.Rows L2
mutual
inductive NKv (K : PySem.W.Frag) (H : Hp) : NestedKey → V → Prop
  | non : NKv K H .none .non
  | int (i : Int) : NKv K H (.num i) (.int i)
  | str (x : Str) : NKv K H (.text x) (.str x)
  | tup {ks : List NestedKey} {p : Addr} {vs : List V} (h1 : SqT K H p vs) (h2 : NKvs K H ks vs) : NKv K H (.tup ks) (.ref p)
inductive NKvs (K : PySem.W.Frag) (H : Hp) : List NestedKey → List V → Prop
  | nil : NKvs K H [] []
  | cons {k : NestedKey} {v : V} {ks : List NestedKey} {vs : List V} (h1 : NKv K H k v) (h2 : NKvs K H ks vs) : NKvs K H (k :: ks) (v :: vs)
end
mutual
theorem NKv.mono {K : PySem.W.Frag} {G H : Hp} (s : Same G H) : ∀ {k : NestedKey} {v : V}, NKv K G k v → NKv K H k v
  | _, _, .non => .non
  | _, _, .int i => .int i
  | _, _, .str x => .str x
  | _, _, .tup h1 h2 => .tup (sqt_mono s h1) (NKvs.mono s h2)
theorem NKvs.mono {K : PySem.W.Frag} {G H : Hp} (s : Same G H) : ∀ {ks : List NestedKey} {vs : List V}, NKvs K G ks vs → NKvs K H ks vs
  | _, _, .nil => .nil
  | _, _, .cons h1 h2 => .cons (NKv.mono s h1) (NKvs.mono s h2)
end
abbrev NEnt := NestedKey × Addr × V
def NKeys (K : PySem.W.Frag) (H : Hp) (xs : List NEnt) : Prop := ∀ e ∈ xs, NKv K H e.1 (.ref e.2.1) ∧ e.1.depth ≤ 8
section
variable {W : Wd} {Z : Zn} {G H F : Hp} {M : Mu} {Q2 : DQ} {ρ : Ro} {d : DV} {q : Addr} {kvs : List (NestedKey × DV)}
theorem NKeys.mono {K : PySem.W.Frag} {xs : List NEnt} (s : Same G H) (h : NKeys K G xs) : NKeys K H xs := fun e he => ⟨(h e he).1.mono s, (h e he).2⟩
end
end DL
set_option Elab.async false
set_option linter.all false
set_option maxRecDepth 100000
set_option maxHeartbeats 2000000
namespace DL
open PySem PySem.Spec PyProof.Rows L2
abbrev Ent := Int × List Nat
abbrev Bun := Str × List Ent
end DL
set_option Elab.async false
set_option linter.all false
set_option maxRecDepth 100000
set_option maxHeartbeats 2000000
namespace DL
open PySem PySem.Spec PyProof.Rows L2
/-- bunches lead down at most so far -/
def deepB (held : List Bun) : Nat → Nat → Prop
  | 0, _ => False
  | n + 1, k => ∃ b, held[k]? = some b ∧ ∀ e ∈ b.2, ∀ p ∈ e.2, deepB held n p
def Vis (held : List Bun) (o : List Nat) : Prop := o.Nodup ∧ ∀ x ∈ o, x < held.length
theorem nodup_len : ∀ {n : Nat} {l : List Nat}, l.Nodup → (∀ x ∈ l, x < n) → l.length ≤ n
  | 0, l, _, h => by
    cases l with
    | nil => exact Nat.le_refl _
    | cons x l => exact absurd (h x List.mem_cons_self) (Nat.not_lt_zero x)
  | n + 1, l, d, h => by
    have h2 := nodup_len (n := n) (l := l.filter fun x => decide (x ≠ n)) (d.filter _) fun x hx => by
      rw [List.mem_filter, decide_eq_true_eq] at hx
      have := h x hx.1
      omega
    have h3 : l.length ≤ (l.filter fun x => decide (x ≠ n)).length + 1 := by
      clear h h2
      induction l with
      | nil => simp
      | cons x l ih =>
        rw [List.nodup_cons] at d
        by_cases e : x = n
        · subst e
          have : l.filter (fun y => decide (y ≠ x)) = l := List.filter_eq_self.mpr fun y hy => decide_eq_true fun k => d.1 (k ▸ hy)
          rw [List.filter_cons_of_neg (by simp), this, List.length_cons]
          exact Nat.le_refl _
        · rw [List.filter_cons_of_pos (by simpa using e), List.length_cons, List.length_cons]
          have := ih d.2
          omega
    omega
theorem Vis.len {held : List Bun} {o : List Nat} (h : Vis held o) : o.length ≤ held.length := nodup_len h.1 h.2
theorem Vis.snoc {held : List Bun} {o : List Nat} {k : Nat} (h : Vis held o) (hk : k ∉ o) (hl : k < held.length) : Vis held (o ++ [k]) := by
  refine ⟨?_, fun x hx => ?_⟩
  · rw [List.nodup_append]
    exact ⟨h.1, List.nodup_cons.mpr ⟨List.not_mem_nil, List.nodup_nil⟩, fun a ha b hb => by
      rw [List.mem_singleton] at hb
      subst hb
      exact fun e => hk (e ▸ ha)⟩
  · rcases List.mem_append.mp hx with h1 | h1
    · exact h.2 x h1
    · rw [List.mem_singleton] at h1
      exact h1 ▸ hl
theorem get_lt {α : Type} {l : List α} {k : Nat} {x : α} (h : l[k]? = some x) : k < l.length := by
  rw [List.getElem?_eq_some_iff] at h
  exact h.1
/-- all parts of a bunch are there -/
def Cld (held : List Bun) (o : List Nat) (x : Nat) : Prop := ∀ b, held[x]? = some b → ∀ e ∈ b.2, ∀ p ∈ e.2, p ∈ o
theorem Cld.mono {held : List Bun} {o o' : List Nat} {x : Nat} (h : Cld held o x) (s : ∀ y ∈ o, y ∈ o') : Cld held o' x := fun b hb e he p hp => s p (h b hb e he p hp)
end DL
set_option Elab.async false
set_option linter.all false
set_option maxRecDepth 100000
set_option maxHeartbeats 2000000
namespace DL
open PySem PySem.Spec PyProof.Rows L2
end DL
set_option Elab.async false
set_option linter.all false
set_option maxRecDepth 100000
set_option maxHeartbeats 2000000
namespace DL
open PySem PySem.Spec PyProof.Rows L2
end DL
set_option Elab.async false
set_option linter.all false
set_option maxRecDepth 100000
set_option maxHeartbeats 2000000
namespace DL
open PySem PySem.Spec PyProof.Rows L2
end DL
set_option Elab.async false
set_option linter.all false
set_option maxRecDepth 100000
set_option maxHeartbeats 2000000
namespace DL
open PySem PySem.Spec PyProof.Rows L2
section
variable {Z : Zn} {ρ : Ro} {M : Mu} {te : TE} {D2 : Ends2} {d : DV}
theorem ws_aug {i : Nat} {ti : R2} (hi : ρ[i]? = some (some d)) (h : WE Z te ρ M fun e M1 => WR Z ti d e M1 fun z M2 => D2.nx (ρ.set i (some z)) M2) : WS Z (tAug i te ti) D2 ρ M := fun G σ H D s R E k => by
  obtain ⟨v, h1, h2⟩ := E.get i d hi
  refine ⟨v, h1, h G σ H _ s R E fun e ve G1 M1 H1 s1 R1 y q => ?_⟩
  refine q G1 H1 v ve _ (s.trans s1) R1 (h2.mono s1) y fun z vz G2 M2 H2 s2 R2 dz q2 => ?_
  exact k.nx _ _ G2 _ _ (s1.trans s2) R2 (((E.mono s1).mono s2).set dz) q2
end
end DL
set_option Elab.async false
set_option linter.all false
set_option maxRecDepth 100000
set_option maxHeartbeats 2000000
namespace DL
open PySem PySem.Spec PyProof.Rows L2
theorem flat_cong {α β : Type} {f g : α → List β} : ∀ {l : List α}, (∀ a ∈ l, f a = g a) → l.flatMap f = l.flatMap g
  | [], _ => rfl
  | a :: l, h => by rw [List.flatMap_cons, List.flatMap_cons, h a List.mem_cons_self, flat_cong fun b hb => h b (List.mem_cons_of_mem _ hb)]
def PartR (raw : List Bun) (cs : List Str) (parts : List Nat) : Prop := parts.map (fun p => (raw[p]?).map Prod.fst) = cs.map some
theorem PartR.len {raw : List Bun} {cs : List Str} {parts : List Nat} (h : PartR raw cs parts) : parts.length = cs.length := by
  have := congrArg List.length h
  simpa using this
theorem PartR.mem {raw : List Bun} {cs : List Str} {parts : List Nat} (h : PartR raw cs parts) {p : Nat} (hp : p ∈ parts) : ∃ b, raw[p]? = some b ∧ b.1 ∈ cs := by
  have h1 : (raw[p]?).map Prod.fst ∈ parts.map fun p => (raw[p]?).map Prod.fst := List.mem_map.mpr ⟨p, hp, rfl⟩
  rw [h, List.mem_map] at h1
  obtain ⟨c, hc, e⟩ := h1
  cases e2 : raw[p]? with
  | none => rw [e2] at e; cases e
  | some b =>
    rw [e2] at e
    injection e with e
    exact ⟨b, rfl, e ▸ hc⟩
theorem PartR.lt {raw : List Bun} {cs : List Str} {parts : List Nat} (h : PartR raw cs parts) {p : Nat} (hp : p ∈ parts) : p < raw.length := by
  obtain ⟨b, hb, _⟩ := h.mem hp
  exact get_lt hb
theorem PartR.get {raw : List Bun} {cs : List Str} {parts : List Nat} (h : PartR raw cs parts) {i p : Nat} {c : Str} (h1 : parts[i]? = some p) (h2 : cs[i]? = some c) : ∃ b, raw[p]? = some b ∧ b.1 = c := by
  have := congrArg (fun l => l[i]?) h
  simp only [List.getElem?_map, h1, h2, Option.map_some, Option.some.injEq, Option.map_eq_some_iff] at this
  exact this
theorem app_get {α : Type} {l x : List α} {k : Nat} {b : α} (h : l[k]? = some b) : (l ++ x)[k]? = some b := by
  rw [List.getElem?_append_left (get_lt h)]
  exact h
def EntR (raw : List Bun) (cs : List Str) (es : List Ent) : Prop := es.Pairwise (fun e f => e.1 < f.1) ∧ ∀ e ∈ es, PartR raw cs e.2
/-- bunches along a tree -/
def HOk (ps : Prs) (m : Nat) (held : List Bun) : Prop := ∀ b ∈ held, b.1 ∈ namesOf ps ∧ EntR held (kidsOf ps (some b.1)) b.2 ∧ b.2.length ≤ m
theorem rk8 {ps : Prs} (t : Tr ps) {c : Str} (h : c ∈ namesOf ps) : rk ps (some c) < 8 := by
  have h1 := t.len
  have h2 := List.length_pos_of_mem h
  rw [names_len] at h2
  show ps.length - 1 - posS c (namesOf ps) < 8
  omega
theorem HOk.deepN {ps : Prs} {m : Nat} {held : List Bun} (t : Tr ps) (h : HOk ps m held) : ∀ {n k : Nat} {b : Bun}, held[k]? = some b → rk ps (some b.1) < n → deepB held n k
  | 0, _, _, _, hn => absurd hn (Nat.not_lt_zero _)
  | n + 1, k, b, hb, hn => by
    refine ⟨b, hb, fun e he p hp => ?_⟩
    obtain ⟨_, h2, _⟩ := h b (List.mem_of_getElem? hb)
    obtain ⟨b', hb', hc⟩ := (h2.2 e he).mem hp
    have := rk_kid t hc
    exact HOk.deepN t h hb' (by omega)
theorem HOk.deep {ps : Prs} {m : Nat} {held : List Bun} (t : Tr ps) (h : HOk ps m held) {k : Nat} {b : Bun} (hb : held[k]? = some b) : deepB held 8 k := h.deepN t hb (rk8 t (h b (List.mem_of_getElem? hb)).1)
def prodR : List (List (List Int)) → List (List Int)
  | [] => [[]]
  | rs :: rss => rs.flatMap fun r => (prodR rss).map (r ++ ·)
def entRows (R : Nat → List (List Int)) (es : List Ent) : List (List Int) := es.flatMap fun e => (prodR (e.2.map R)).map (e.1 :: ·)
def rowsN (held : List Bun) : Nat → Nat → List (List Int)
  | 0, _ => []
  | n + 1, k => match held[k]? with
    | none => []
    | some b => entRows (rowsN held n) b.2
def rowsB (held : List Bun) (k : Nat) : List (List Int) := rowsN held 9 k
theorem entRows_cong {R S : Nat → List (List Int)} {es : List Ent} (h : ∀ e ∈ es, ∀ p ∈ e.2, R p = S p) : entRows R es = entRows S es := flat_cong fun e he => by rw [List.map_congr_left fun p hp => h e he p hp]
theorem rowsN_some {held : List Bun} {n k : Nat} {b : Bun} (hb : held[k]? = some b) : rowsN held (n + 1) k = entRows (rowsN held n) b.2 := by rw [rowsN, hb]
theorem rowsN_deep {held : List Bun} : ∀ {n k : Nat}, deepB held n k → rowsN held n k = rowsN held (n + 1) k
  | 0, _, h => absurd h id
  | n + 1, k, ⟨b, hb, h⟩ => by
    rw [rowsN_some hb, rowsN_some hb]
    exact entRows_cong fun e he p hp => rowsN_deep (h e he p hp)
theorem rows_eq {ps : Prs} {m : Nat} {held : List Bun} (t : Tr ps) (h : HOk ps m held) {k : Nat} {b : Bun} (hb : held[k]? = some b) : rowsB held k = entRows (rowsB held) b.2 := by
  unfold rowsB
  rw [rowsN_some hb]
  refine entRows_cong fun e he p hp => ?_
  obtain ⟨_, h2, _⟩ := h b (List.mem_of_getElem? hb)
  obtain ⟨b', hb', hc⟩ := (h2.2 e he).mem hp
  exact rowsN_deep (h.deep t hb')
def NonE (held : List Bun) : Prop := ∀ b ∈ held, b.2 ≠ []
structure FoldOk (ps : Prs) (m : Nat) (bs : List Bun) (ts : Option (List Nat)) : Prop where
  len : bs.length ≤ 10000
  hok : HOk ps m bs
  ne : NonE bs
  tops : ∀ l, ts = some l → PartR bs (kidsOf ps none) l
end DL
set_option Elab.async false
set_option linter.all false
set_option maxRecDepth 100000
set_option maxHeartbeats 2000000
namespace DL
open PySem PySem.Spec PyProof.Rows L2
theorem ord_sum {ps : Prs} (t : Tr ps) (o : Option Str) : (ord ps o).length = ((kidsOf ps o).map fun c => (ord ps (some c)).length + 1).sum := by
  rw [ord_eq t, List.length_flatMap]
  rfl
def blkV (ps : Prs) (val : Str → Int) (c : Str) : List Int := val c :: (ord ps (some c)).map val
theorem mem_ent {R : Nat → List (List Int)} {es : List Ent} {v : Int} {r : List Int} : v :: r ∈ entRows R es ↔ ∃ e ∈ es, e.1 = v ∧ r ∈ prodR (e.2.map R) := by
  unfold entRows
  simp only [List.mem_flatMap, List.mem_map]
  constructor
  · rintro ⟨e, he, r', hr, h⟩
    injection h with h1 h2
    exact ⟨e, he, h1, h2 ▸ hr⟩
  · rintro ⟨e, he, rfl, hr⟩
    exact ⟨e, he, r, hr, rfl⟩
theorem mem_prod_cons {rs : List (List Int)} {rss : List (List (List Int))} {x y : List Int} (h : ∀ r ∈ rs, r.length = x.length) : x ++ y ∈ prodR (rs :: rss) ↔ x ∈ rs ∧ y ∈ prodR rss := by
  rw [prodR]
  simp only [List.mem_flatMap, List.mem_map]
  constructor
  · rintro ⟨r, hr, s, hs, e⟩
    obtain ⟨e1, e2⟩ := List.append_inj e (h r hr)
    exact ⟨e1 ▸ hr, e2 ▸ hs⟩
  · rintro ⟨hx, hy⟩
    exact ⟨x, hx, y, hy, rfl⟩
theorem prodR_lens : ∀ {rss : List (List (List Int))} {ds : List Nat}, rss.length = ds.length → (∀ (i : Nat) (rs : List (List Int)) (d : Nat), rss[i]? = some rs → ds[i]? = some d → ∀ r ∈ rs, r.length = d) → ∀ r ∈ prodR rss, r.length = ds.sum
  | [], [], _, _, r, hr => by
    rw [prodR, List.mem_singleton] at hr
    rw [hr]; rfl
  | rs :: rss, d :: ds, hl, h, r, hr => by
    rw [prodR] at hr
    simp only [List.mem_flatMap, List.mem_map] at hr
    obtain ⟨x, hx, y, hy, rfl⟩ := hr
    rw [List.length_append, h 0 rs d rfl rfl x hx, prodR_lens (ds := ds) (by simpa using hl) (fun i rs d h1 h2 => h (i + 1) rs d (by simpa using h1) (by simpa using h2)) y hy, List.sum_cons]
theorem rows_wide {ps : Prs} {m : Nat} {bs : List Bun} (t : Tr ps) (h : HOk ps m bs) : ∀ {n k : Nat} {b : Bun}, bs[k]? = some b → ∀ r ∈ rowsN bs n k, r.length = (ord ps (some b.1)).length + 1
  | 0, _, _, _, r, hr => by cases hr
  | n + 1, k, b, hb, r, hr => by
    obtain ⟨_, g2, g3⟩ := h b (List.mem_of_getElem? hb)
    rw [rowsN_some hb] at hr
    unfold entRows at hr
    simp only [List.mem_flatMap, List.mem_map] at hr
    obtain ⟨e, he, s, hs, rfl⟩ := hr
    have hp := g2.2 e he
    rw [List.length_cons, ord_sum t]
    refine congrArg (· + 1) (prodR_lens (by rw [List.length_map, List.length_map, hp.len]) (fun i rs d h1 h2 => ?_) s hs)
    rw [List.getElem?_map, Option.map_eq_some_iff] at h1 h2
    obtain ⟨p, h1, rfl⟩ := h1
    obtain ⟨c, h2, rfl⟩ := h2
    obtain ⟨b', hb', rfl⟩ := hp.get h1 h2
    exact rows_wide t h hb'
theorem mem_prod {ps : Prs} {m : Nat} {bs : List Bun} (t : Tr ps) (h : HOk ps m bs) {val : Str → Int} : ∀ {cs : List Str} {parts : List Nat}, PartR bs cs parts → ((cs.flatMap (blkV ps val)) ∈ prodR (parts.map (rowsB bs)) ↔ ∀ (i p : Nat) (c : Str), parts[i]? = some p → cs[i]? = some c → blkV ps val c ∈ rowsB bs p)
  | [], [], _ => by simp [prodR]
  | c :: cs, [], hp => by have := hp.len; simp at this
  | [], p :: parts, hp => by have := hp.len; simp at this
  | c :: cs, p :: parts, hp => by
    have hp2 : PartR bs cs parts := by
      unfold PartR at hp ⊢
      rw [List.map_cons, List.map_cons] at hp
      injection hp
    obtain ⟨b, hb, rfl⟩ := hp.get (i := 0) rfl rfl
    rw [List.flatMap_cons, List.map_cons, mem_prod_cons, mem_prod t h hp2]
    · constructor
      · rintro ⟨h1, h2⟩ i q d e1 e2
        cases i with
        | zero => cases e1; cases e2; exact h1
        | succ i => exact h2 i q d (by simpa using e1) (by simpa using e2)
      · intro g
        exact ⟨g 0 _ _ rfl rfl, fun i q d e1 e2 => g (i + 1) q d (by simpa using e1) (by simpa using e2)⟩
    · intro r hr
      rw [rows_wide t h hb r hr]
      simp [blkV]
theorem blk_ord {ps : Prs} (t : Tr ps) {val : Str → Int} (o : Option Str) : (ord ps o).map val = (kidsOf ps o).flatMap (blkV ps val) := by
  rw [ord_eq t, List.map_flatMap]
  rfl
end DL
set_option Elab.async false
set_option linter.all false
set_option maxRecDepth 100000
set_option maxHeartbeats 2000000
namespace DL
open PySem PySem.Spec PyProof.Rows L2
end DL
set_option Elab.async false
set_option linter.all false
set_option maxRecDepth 100000
set_option maxHeartbeats 2000000
namespace DL
open PySem PySem.Spec PyProof.Rows L2
end DL
set_option Elab.async false
set_option linter.all false
set_option maxRecDepth 100000
set_option maxHeartbeats 2000000
namespace DL
open PySem PySem.Spec PyProof.Rows L2
def renB (f : Nat → Nat) (b : Bun) : Bun := (b.1, b.2.map fun e => (e.1, e.2.map f))
structure Iso (A B : List Bun) (f : Nat → Nat) (S : Nat → Prop) : Prop where
  inj : ∀ x y, S x → S y → f x = f y → x = y
  at' : ∀ k, S k → ∃ b, A[k]? = some b ∧ B[f k]? = some (renB f b)
  cld : ∀ k b, S k → A[k]? = some b → ∀ e ∈ b.2, ∀ p ∈ e.2, S p
section
variable {A B : List Bun} {f : Nat → Nat} {S : Nat → Prop}
theorem Iso.mem (I : Iso A B f S) {o : List Nat} (ho : ∀ x ∈ o, S x) {k : Nat} (hk : S k) : f k ∈ o.map f ↔ k ∈ o := by
  rw [List.mem_map]
  exact ⟨fun ⟨x, hx, e⟩ => I.inj x k (ho x hx) hk e ▸ hx, fun h => ⟨k, h, rfl⟩⟩
end
end DL
set_option Elab.async false
set_option linter.all false
set_option maxRecDepth 100000
set_option maxHeartbeats 2000000
namespace DL
open PySem PySem.Spec PyProof.Rows L2
theorem prodR_some : ∀ {l : List (List (List Int))}, (∀ rs ∈ l, rs ≠ []) → prodR l ≠ []
  | [], _ => by simp [prodR]
  | rs :: l, h => by
    rw [prodR]
    intro e
    rw [List.flatMap_eq_nil_iff] at e
    obtain ⟨r, rs', hrs⟩ := List.exists_cons_of_ne_nil (h rs List.mem_cons_self)
    have := e r (by rw [hrs]; exact List.mem_cons_self)
    exact prodR_some (fun rs hrs => h rs (List.mem_cons_of_mem _ hrs)) (List.map_eq_nil_iff.mp this)
theorem rowsN_some0 {bs : List Bun} (hn : NonE bs) : ∀ {d k : Nat}, deepB bs d k → rowsN bs d k ≠ []
  | 0, _, hd => absurd hd id
  | d + 1, k, ⟨b, hb, hp⟩ => by
    rw [rowsN_some hb]
    obtain ⟨e, es, hes⟩ := List.exists_cons_of_ne_nil (hn b (List.mem_of_getElem? hb))
    unfold entRows
    intro h
    rw [List.flatMap_eq_nil_iff] at h
    have he : e ∈ b.2 := by rw [hes]; exact List.mem_cons_self
    refine prodR_some (fun rs hrs => ?_) (List.map_eq_nil_iff.mp (h e he))
    obtain ⟨p, hpp, rfl⟩ := List.mem_map.mp hrs
    exact rowsN_some0 hn (hp e he p hpp)
theorem rowsB_some {ps : Prs} {m : Nat} {bs : List Bun} (t : Tr ps) (h : HOk ps m bs) (hn : NonE bs) {k : Nat} (hk : k < bs.length) : rowsB bs k ≠ [] := by
  unfold rowsB
  rw [← rowsN_deep (h.deep t (List.getElem?_eq_getElem hk))]
  exact rowsN_some0 hn (h.deep t (List.getElem?_eq_getElem hk))
end DL
set_option Elab.async false
set_option linter.all false
set_option maxRecDepth 100000
set_option maxHeartbeats 2000000
namespace DL
open PySem PySem.Spec PyProof.Rows L2
def SameR {α : Type} (A B : List α) : Prop := ∀ r, r ∈ A ↔ r ∈ B
theorem SameR.refl {α : Type} (A : List α) : SameR A A := fun _ => Iff.rfl
theorem SameR.symm {α : Type} {A B : List α} (h : SameR A B) : SameR B A := fun r => (h r).symm
theorem SameR.trans {α : Type} {A B C : List α} (h : SameR A B) (k : SameR B C) : SameR A C := fun r => (h r).trans (k r)
theorem SameR.of_eq {α : Type} {A B : List α} (h : A = B) : SameR A B := h ▸ SameR.refl A
theorem inc_uniq : ∀ {l m : List Int}, l.Pairwise (· < ·) → m.Pairwise (· < ·) → SameR l m → l = m
  | [], [], _, _, _ => rfl
  | [], b :: m, _, _, h => by cases (h b).mpr List.mem_cons_self
  | a :: l, [], _, _, h => by cases (h a).mp List.mem_cons_self
  | a :: l, b :: m, hl, hm, h => by
    rw [List.pairwise_cons] at hl hm
    have e : a = b := by
      rcases List.mem_cons.mp ((h a).mp List.mem_cons_self) with e | h1
      · exact e
      · rcases List.mem_cons.mp ((h b).mpr List.mem_cons_self) with e | h2
        · exact e.symm
        · have := hl.1 b h2
          have := hm.1 a h1
          omega
    subst e
    rw [inc_uniq hl.2 hm.2 fun r => ⟨fun hr => ?_, fun hr => ?_⟩]
    · rcases List.mem_cons.mp ((h r).mp (List.mem_cons_of_mem _ hr)) with e | h1
      · have := hl.1 r hr
        omega
      · exact h1
    · rcases List.mem_cons.mp ((h r).mpr (List.mem_cons_of_mem _ hr)) with e | h1
      · have := hm.1 r hr
        omega
      · exact h1
theorem inc_at {es : List Ent} (h : es.Pairwise fun e f => e.1 < f.1) {i j : Nat} {e f : Ent} (hi : es[i]? = some e) (hj : es[j]? = some f) (v : e.1 = f.1) : i = j := by
  obtain ⟨li, ei⟩ := List.getElem?_eq_some_iff.mp hi
  obtain ⟨lj, ej⟩ := List.getElem?_eq_some_iff.mp hj
  have hp := List.pairwise_iff_getElem.mp h
  rcases Nat.lt_trichotomy i j with hh | hh | hh
  · have := hp i j li lj hh
    rw [ei, ej] at this
    omega
  · exact hh
  · have := hp j i lj li hh
    rw [ei, ej] at this
    omega
theorem ents_same {R S : Nat → List (List Int)} {es fs : List Ent} (he : es.Pairwise fun e f => e.1 < f.1) (hf : fs.Pairwise fun e f => e.1 < f.1) (ne : ∀ e ∈ es, prodR (e.2.map R) ≠ []) (nf : ∀ e ∈ fs, prodR (e.2.map S) ≠ []) (h : SameR (entRows R es) (entRows S fs)) :
    es.map Prod.fst = fs.map Prod.fst ∧ ∀ (i : Nat) (e f : Ent), es[i]? = some e → fs[i]? = some f → SameR (prodR (e.2.map R)) (prodR (f.2.map S)) := by
  have one : es.map Prod.fst = fs.map Prod.fst := by
    refine inc_uniq (List.pairwise_map.mpr he) (List.pairwise_map.mpr hf) fun v => ⟨fun hv => ?_, fun hv => ?_⟩
    · obtain ⟨e, he1, rfl⟩ := List.mem_map.mp hv
      obtain ⟨r, rs, hr⟩ := List.exists_cons_of_ne_nil (ne e he1)
      have : e.1 :: r ∈ entRows R es := mem_ent.mpr ⟨e, he1, rfl, by rw [hr]; exact List.mem_cons_self⟩
      obtain ⟨f, hf1, e2, _⟩ := mem_ent.mp ((h _).mp this)
      exact List.mem_map.mpr ⟨f, hf1, e2⟩
    · obtain ⟨e, he1, rfl⟩ := List.mem_map.mp hv
      obtain ⟨r, rs, hr⟩ := List.exists_cons_of_ne_nil (nf e he1)
      have : e.1 :: r ∈ entRows S fs := mem_ent.mpr ⟨e, he1, rfl, by rw [hr]; exact List.mem_cons_self⟩
      obtain ⟨f, hf1, e2, _⟩ := mem_ent.mp ((h _).mpr this)
      exact List.mem_map.mpr ⟨f, hf1, e2⟩
  refine ⟨one, fun i e f h1 h2 r => ?_⟩
  have ev : e.1 = f.1 := by
    have := congrArg (fun l => l[i]?) one
    simp only [List.getElem?_map, h1, h2, Option.map_some, Option.some.injEq] at this
    exact this
  constructor
  · intro hr
    obtain ⟨g, hg, e2, hg2⟩ := mem_ent.mp ((h (e.1 :: r)).mp (mem_ent.mpr ⟨e, List.mem_of_getElem? h1, rfl, hr⟩))
    obtain ⟨j, hj⟩ := List.getElem?_of_mem hg
    have := inc_at hf h2 hj (by rw [← ev, e2])
    subst this
    rw [h2] at hj
    cases hj
    exact hg2
  · intro hr
    obtain ⟨g, hg, e2, hg2⟩ := mem_ent.mp ((h (f.1 :: r)).mpr (mem_ent.mpr ⟨f, List.mem_of_getElem? h2, rfl, hr⟩))
    obtain ⟨j, hj⟩ := List.getElem?_of_mem hg
    have := inc_at he h1 hj (by rw [ev, e2])
    subst this
    rw [h1] at hj
    cases hj
    exact hg2
theorem prod_same : ∀ {rss sss : List (List (List Int))} {ds : List Nat}, rss.length = ds.length → sss.length = ds.length →
    (∀ (i : Nat) (rs : List (List Int)) (d : Nat), rss[i]? = some rs → ds[i]? = some d → rs ≠ [] ∧ ∀ r ∈ rs, r.length = d) →
    (∀ (i : Nat) (rs : List (List Int)) (d : Nat), sss[i]? = some rs → ds[i]? = some d → rs ≠ [] ∧ ∀ r ∈ rs, r.length = d) →
    SameR (prodR rss) (prodR sss) → ∀ (i : Nat) (rs ss : List (List Int)), rss[i]? = some rs → sss[i]? = some ss → SameR rs ss
  | [], _, _, _, _, _, _, _, i, rs, ss, h1, _ => by simp at h1
  | rs :: rss, [], ds, h1, h2, _, _, _, i, a, b, _, h3 => by simp at h3
  | rs :: rss, ss :: sss, [], h1, _, _, _, _, _, _, _, _, _ => by simp at h1
  | rs :: rss, ss :: sss, d :: ds, h1, h2, g1, g2, h, i, a, b, e1, e2 => by
    obtain ⟨n1, w1⟩ := g1 0 rs d rfl rfl
    obtain ⟨n2, w2⟩ := g2 0 ss d rfl rfl
    have t1 : ∀ (i : Nat) (rs : List (List Int)) (d : Nat), rss[i]? = some rs → ds[i]? = some d → rs ≠ [] ∧ ∀ r ∈ rs, r.length = d := fun i rs d q1 q2 => g1 (i + 1) rs d (by simpa using q1) (by simpa using q2)
    have t2 : ∀ (i : Nat) (rs : List (List Int)) (d : Nat), sss[i]? = some rs → ds[i]? = some d → rs ≠ [] ∧ ∀ r ∈ rs, r.length = d := fun i rs d q1 q2 => g2 (i + 1) rs d (by simpa using q1) (by simpa using q2)
    have l1 : rss.length = ds.length := by simpa using h1
    have l2 : sss.length = ds.length := by simpa using h2
    have s1 : prodR rss ≠ [] := prodR_some fun x hx => by
      obtain ⟨j, hj⟩ := List.getElem?_of_mem hx
      have hl := get_lt hj
      exact (t1 j x ds[j] hj (List.getElem?_eq_getElem (by omega))).1
    have s2 : prodR sss ≠ [] := prodR_some fun x hx => by
      obtain ⟨j, hj⟩ := List.getElem?_of_mem hx
      have hl := get_lt hj
      exact (t2 j x ds[j] hj (List.getElem?_eq_getElem (by omega))).1
    obtain ⟨x1, _, hx1⟩ := List.exists_cons_of_ne_nil n1
    obtain ⟨x2, _, hx2⟩ := List.exists_cons_of_ne_nil n2
    obtain ⟨y1, _, hy1⟩ := List.exists_cons_of_ne_nil s1
    obtain ⟨y2, _, hy2⟩ := List.exists_cons_of_ne_nil s2
    have mx1 : x1 ∈ rs := by rw [hx1]; exact List.mem_cons_self
    have mx2 : x2 ∈ ss := by rw [hx2]; exact List.mem_cons_self
    have my1 : y1 ∈ prodR rss := by rw [hy1]; exact List.mem_cons_self
    have my2 : y2 ∈ prodR sss := by rw [hy2]; exact List.mem_cons_self
    cases i with
    | zero =>
      simp only [List.getElem?_cons_zero, Option.some.injEq] at e1 e2
      subst e1 e2
      intro x
      constructor
      · intro hx
        have hw := w1 x hx
        exact ((mem_prod_cons fun r hr => (w2 r hr).trans hw.symm).mp ((h (x ++ y1)).mp ((mem_prod_cons fun r hr => (w1 r hr).trans hw.symm).mpr ⟨hx, my1⟩))).1
      · intro hx
        have hw := w2 x hx
        exact ((mem_prod_cons fun r hr => (w1 r hr).trans hw.symm).mp ((h (x ++ y2)).mpr ((mem_prod_cons fun r hr => (w2 r hr).trans hw.symm).mpr ⟨hx, my2⟩))).1
    | succ i =>
      refine prod_same l1 l2 t1 t2 (fun y => ⟨fun hy => ?_, fun hy => ?_⟩) i a b (by simpa using e1) (by simpa using e2)
      · have hw := w1 x1 mx1
        exact ((mem_prod_cons fun r hr => (w2 r hr).trans hw.symm).mp ((h (x1 ++ y)).mp ((mem_prod_cons fun r hr => (w1 r hr).trans hw.symm).mpr ⟨mx1, hy⟩))).2
      · have hw := w2 x2 mx2
        exact ((mem_prod_cons fun r hr => (w1 r hr).trans hw.symm).mp ((h (x2 ++ y)).mpr ((mem_prod_cons fun r hr => (w2 r hr).trans hw.symm).mpr ⟨mx2, hy⟩))).2
def SameB (A B : List Bun) (k l : Nat) : Prop := ∃ b c, A[k]? = some b ∧ B[l]? = some c ∧ b.1 = c.1 ∧ SameR (rowsB A k) (rowsB B l)
section
variable {ps : Prs} {m n : Nat} {A B : List Bun}
theorem parts_same (t : Tr ps) (hA : HOk ps m A) (hB : HOk ps n B) (nA : NonE A) (nB : NonE B) {cs : List Str} {l1 l2 : List Nat} (h1 : PartR A cs l1) (h2 : PartR B cs l2) (h : SameR (prodR (l1.map (rowsB A))) (prodR (l2.map (rowsB B)))) {i p q : Nat} (hp : l1[i]? = some p) (hq : l2[i]? = some q) : SameB A B p q := by
  have w : ∀ {m : Nat} {A : List Bun} {l : List Nat}, HOk ps m A → NonE A → PartR A cs l → ∀ (i : Nat) (rs : List (List Int)) (d : Nat), (l.map (rowsB A))[i]? = some rs → (cs.map fun c => (ord ps (some c)).length + 1)[i]? = some d → rs ≠ [] ∧ ∀ r ∈ rs, r.length = d := by
    intro m A l hA nA hl i rs d e1 e2
    rw [List.getElem?_map, Option.map_eq_some_iff] at e1 e2
    obtain ⟨p, hp, rfl⟩ := e1
    obtain ⟨c, hc, rfl⟩ := e2
    obtain ⟨b, hb, rfl⟩ := hl.get hp hc
    exact ⟨rowsB_some t hA nA (get_lt hb), rows_wide t hA hb⟩
  have hi := get_lt hp
  rw [h1.len] at hi
  have hc : cs[i]? = some cs[i] := List.getElem?_eq_getElem hi
  obtain ⟨b, hb, e1⟩ := h1.get hp hc
  obtain ⟨c, hc2, e2⟩ := h2.get hq hc
  refine ⟨b, c, hb, hc2, e1.trans e2.symm, ?_⟩
  exact prod_same (ds := cs.map fun c => (ord ps (some c)).length + 1) (by simp [h1.len]) (by simp [h2.len]) (w hA nA h1) (w hB nB h2) h i _ _ (by rw [List.getElem?_map, hp]; rfl) (by rw [List.getElem?_map, hq]; rfl)
theorem SameB.step (t : Tr ps) (hA : HOk ps m A) (hB : HOk ps n B) (nA : NonE A) (nB : NonE B) {k l : Nat} (h : SameB A B k l) : ∃ b c, A[k]? = some b ∧ B[l]? = some c ∧ b.1 = c.1 ∧ b.2.map Prod.fst = c.2.map Prod.fst ∧
    ∀ (i : Nat) (e f : Ent), b.2[i]? = some e → c.2[i]? = some f → e.2.length = f.2.length ∧ ∀ (j p q : Nat), e.2[j]? = some p → f.2[j]? = some q → SameB A B p q := by
  obtain ⟨b, c, hb, hc, e1, hr⟩ := h
  obtain ⟨_, b2, _⟩ := hA b (List.mem_of_getElem? hb)
  obtain ⟨_, c2, _⟩ := hB c (List.mem_of_getElem? hc)
  have pn : ∀ {m : Nat} {A : List Bun} {cs : List Str} {es : List Ent}, HOk ps m A → NonE A → EntR A cs es → ∀ e ∈ es, prodR (e.2.map (rowsB A)) ≠ [] := by
    intro m A cs es hA nA hE e he
    refine prodR_some fun rs hrs => ?_
    obtain ⟨p, hp, rfl⟩ := List.mem_map.mp hrs
    exact rowsB_some t hA nA ((hE.2 e he).lt hp)
  rw [rows_eq t hA hb, rows_eq t hB hc] at hr
  obtain ⟨v, w⟩ := ents_same b2.1 c2.1 (pn hA nA b2) (pn hB nB c2) hr
  refine ⟨b, c, hb, hc, e1, v, fun i e f he hf => ?_⟩
  have p1 := b2.2 e (List.mem_of_getElem? he)
  have p2 := c2.2 f (List.mem_of_getElem? hf)
  rw [← e1] at p2
  exact ⟨p1.len.trans p2.len.symm, fun j p q hp hq => parts_same t hA hB nA nB p1 p2 (w i e f he hf) hp hq⟩
theorem SameB.symm {k l : Nat} (h : SameB A B k l) : SameB B A l k := by
  obtain ⟨b, c, h1, h2, h3, h4⟩ := h
  exact ⟨c, b, h2, h1, h3.symm, h4.symm⟩
theorem SameB.trans {C : List Bun} {k l x : Nat} (h : SameB A B k l) (g : SameB B C l x) : SameB A C k x := by
  obtain ⟨b, c, h1, h2, h3, h4⟩ := h
  obtain ⟨c', d, g1, g2, g3, g4⟩ := g
  rw [h2] at g1
  cases g1
  exact ⟨b, d, h1, g2, h3.trans g3, h4.trans g4⟩
end
end DL
set_option Elab.async false
set_option linter.all false
set_option maxRecDepth 100000
set_option maxHeartbeats 2000000
namespace DL
open PySem PySem.Spec PyProof.Rows L2
def DVals (P : Program) (w : World) (d : Addr) (o : PySem.Obj) (u : HO) (vs : List V) : Prop := ∀ (H : Hp) (h : Heap), ObjOk P w H h d (.frz o u) → (d == sysModules) = false ∧ o.ExactDict ∧ ∃ es ep us, o.data = .dict es ep ∧ es.toList.map (·.val) = us ∧ Vals vs us
section
variable {P : Program} {w : World} {K : PySem.W.Frag} {tg : Expr} {d : Addr} {o : PySem.Obj} {u : HO} {vs : List V} {ep : Nat} {es : Array DictEntry}
theorem DVals.at {pins : List (Addr × PySem.Obj)} {σ : L2.St} {H : Hp} {s : Shared} {X : Cx} (D : DVals X.prog X.w d o u vs) (I : Inv X pins σ H s) (hd : H d = some (.frz o u)) :
    (d == sysModules) = false ∧ ∃ es ep, o.data = .dict es ep ∧ s.heap.DictRaw d es ep ∧ es.size = vs.length ∧ ∀ (i : Nat) (hi : i < es.size) (v : V), vs[i]? = some v → RelV v es[i].val := by
  have ok := I.hok d _ hd
  have hg : s.heap.get? d = some o := ok.1
  obtain ⟨h1, h2, es, ep, us, h3, h4, h5⟩ := D H s.heap ok
  have hl : es.size = vs.length := by
    have := h5.length
    rw [this, ← h4, List.length_map]
    simp
  refine ⟨h1, es, ep, h3, ⟨o, hg, h2, h3⟩, hl, fun i hi v hv => ?_⟩
  obtain ⟨u', hu, ru⟩ := h5.get hv
  rw [← h4, List.getElem?_map] at hu
  have : es.toList[i]? = some es[i] := by simp [hi]
  rw [this] at hu
  cases hu
  exact ru
end
end DL
set_option Elab.async false
set_option linter.all false
set_option maxRecDepth 100000
set_option maxHeartbeats 2000000
namespace DL
open PySem PySem.Spec PyProof.Rows L2
section
variable {W : Wd} {Z : Zn} {G G' H F : Hp} {M M0 : Mu} {Q2 : DQ} {ρ : Ro} {d : DV} {q : Addr} {te : TE} {tx : TA} {ts : TS} {D2 : Ends2}
structure GC {κ : Type} (mk : List (κ × DV) → MO) (M M0 : Mu) (k : Addr) (b : List (κ × Addr × List DV)) : Prop where
  hk : M k = some (mk (b.map fun e => (e.1, .r e.2.1)))
  hb : ∀ e ∈ b, M e.2.1 = some (.lst e.2.2)
  out : ∀ q, q ≠ k → (∀ e ∈ b, q ≠ e.2.1) → M q = M0 q
  fk : M0 k = none
  fb : ∀ e ∈ b, M0 e.2.1 = none
  bk : ∀ e ∈ b, e.2.1 ≠ k
  dis : (b.map (·.2.1)).Nodup
/-- what is read of such a dict hangs on its values alone -/
def MkOk {κ : Type} (W : Wd) (mk : List (κ × DV) → MO) : Prop := ∀ (G G' H : Hp) (k : Addr) (kvs lvs : List (κ × DV)), kvs.map (·.1) = lvs.map (·.1) → Same G G' → (∀ xs, DatL W G (kvs.map (·.2)) xs → DatL W G' (lvs.map (·.2)) xs) → MAt W G H k (mk kvs) → MAt W G' H k (mk lvs)
section
variable {κ : Type} {mk : List (κ × DV) → MO} {k : Addr} {b : List (κ × Addr × List DV)}
theorem GC.nil {M0 : Mu} (h : M0 k = none) : GC mk (updM M0 k (mk [])) M0 k [] := ⟨updM_same, fun e he => (by cases he), fun q hq _ => updM_ne hq, h, fun e he => (by cases he), fun e he => (by cases he), List.nodup_nil⟩
def gIn (b : List (κ × Addr × List DV)) (q : Addr) : Bool := b.any fun e => decide (q = e.2.1)
theorem gIn_of {q : Addr} (h : gIn b q = true) : ∃ e ∈ b, q = e.2.1 := by
  obtain ⟨e, he, h⟩ := List.any_eq_true.mp h
  exact ⟨e, he, of_decide_eq_true h⟩
theorem gIn_b {e : κ × Addr × List DV} (he : e ∈ b) : gIn b e.2.1 = true := List.any_eq_true.mpr ⟨e, he, decide_eq_true rfl⟩
theorem gIn_no {q : Addr} (h : gIn b q = false) : ∀ e ∈ b, q ≠ e.2.1 := fun e he hq => by rw [hq, gIn_b he] at h; cases h
theorem GC.freeze (c : GC mk M M0 k b) (hmk : MkOk W mk) : Frz W M (updM M0 k (mk (b.map fun e => (e.1, .lst e.2.2)))) := fun G F H R => by
  have hs : Same G (fun q => if gIn b q = true then H q else G q) := fun q u hq => by
    show (if gIn b q = true then H q else G q) = some u
    by_cases e : gIn b q = true
    · obtain ⟨e', he, rfl⟩ := gIn_of e
      rw [(R.mu _ _ (c.hb e' he)).1] at hq
      cases hq
    · rw [if_neg e]; exact hq
  have hkn : gIn b k = false := by
    cases e : gIn b k with
    | false => rfl
    | true =>
      obtain ⟨e', he, h⟩ := gIn_of e
      exact absurd h.symm (c.bk e' he)
  refine ⟨fun q => if gIn b q = true then H q else G q, hs, fun q u hq => ?_, R.fr, fun q u hq => ?_, fun q mo hq => ?_⟩
  · replace hq : (if gIn b q = true then H q else G q) = some u := hq
    by_cases e : gIn b q = true
    · rw [if_pos e] at hq; exact hq
    · rw [if_neg e] at hq; exact R.ex q u hq
  · obtain ⟨h1, h2⟩ := R.fd q u hq
    have hn : gIn b q = false := by
      cases e : gIn b q with
      | false => rfl
      | true =>
        obtain ⟨e', he, rfl⟩ := gIn_of e
        rw [c.hb e' he] at h2
        cases h2
    have hqk : q ≠ k := fun e => by rw [e, c.hk] at h2; cases h2
    refine ⟨?_, ?_⟩
    · show (if gIn b q = true then H q else G q) = none
      rw [hn, if_neg Bool.false_ne_true]; exact h1
    · rw [updM_ne hqk, ← c.out q hqk (gIn_no hn)]; exact h2
  · by_cases e : q = k
    · subst e
      rw [updM_same] at hq
      cases hq
      obtain ⟨g0, hm⟩ := R.mu _ _ c.hk
      refine ⟨?_, hmk G _ H _ _ _ (by simp) hs (fun xs hx => ?_) hm⟩
      · show (if gIn b q = true then H q else G q) = none
        rw [hkn, if_neg Bool.false_ne_true]; exact g0
      · rw [List.map_map] at hx ⊢
        have ez : xs = b.map fun e => V.ref e.2.1 := datL_refs (f := fun e : κ × Addr × List DV => e.2.1) hx
        rw [ez]
        have key : ∀ l : List (κ × Addr × List DV), (∀ e ∈ l, e ∈ b) → DatL W (fun q => if gIn b q = true then H q else G q) (l.map ((·.2) ∘ fun e => (e.1, DV.lst e.2.2))) (l.map fun e => V.ref e.2.1) := by
          intro l
          induction l with
          | nil => intro _; exact datL_nil'
          | cons e l ih =>
            intro hm
            refine datL_cons' ?_ (ih fun f hf => hm f (List.mem_cons_of_mem _ hf))
            have he := hm e List.mem_cons_self
            obtain ⟨_, ys, hy, hyd⟩ := R.mu _ _ (c.hb e he)
            refine dat_lst.mpr ⟨e.2.1, ys, rfl, ?_, hyd.mono hs⟩
            show (if gIn b e.2.1 = true then H e.2.1 else G e.2.1) = _
            rw [gIn_b he, if_pos rfl]; exact hy
        exact key b fun _ h => h
    · rw [updM_ne e] at hq
      have hn : gIn b q = false := by
        cases e2 : gIn b q with
        | false => rfl
        | true =>
          obtain ⟨e3, he, rfl⟩ := gIn_of e2
          rw [c.fb e3 he] at hq
          cases hq
      rw [← c.out q e (gIn_no hn)] at hq
      obtain ⟨g0, hm⟩ := R.mu q mo hq
      refine ⟨?_, hm.mono hs⟩
      show (if gIn b q = true then H q else G q) = none
      rw [hn, if_neg Bool.false_ne_true]; exact g0
/-- one more -/
theorem GC.snoc (c : GC mk M M0 k b) {p : Addr} (hp : M p = none) (key : κ) (ds : List DV) : GC mk (updM (updM M k (mk (b.map (fun e => (e.1, DV.r e.2.1)) ++ [(key, .r p)]))) p (.lst ds)) M0 k (b ++ [(key, p, ds)]) := by
  have pk : p ≠ k := fun e => by rw [e, c.hk] at hp; cases hp
  have pb : ∀ e ∈ b, e.2.1 ≠ p := fun e he h => by rw [← h, c.hb e he] at hp; cases hp
  have p0 : M0 p = none := by rw [← c.out p pk fun e he h => pb e he h.symm]; exact hp
  refine ⟨?_, fun f hf => ?_, fun q hq hn => ?_, c.fk, fun f hf => ?_, fun f hf => ?_, ?_⟩
  · rw [updM_ne (Ne.symm pk), updM_same, List.map_append]
    rfl
  · rcases List.mem_append.mp hf with hf | hf
    · rw [updM_ne (pb f hf), updM_ne (c.bk f hf)]; exact c.hb f hf
    · rw [List.mem_singleton.mp hf]; exact updM_same
  · have h1 : q ≠ p := hn (key, p, ds) (List.mem_append_right _ (List.mem_singleton.mpr rfl))
    rw [updM_ne h1, updM_ne hq]
    exact c.out q hq fun f hf => hn f (List.mem_append_left _ hf)
  · rcases List.mem_append.mp hf with hf | hf
    · exact c.fb f hf
    · rw [List.mem_singleton.mp hf]; exact p0
  · rcases List.mem_append.mp hf with hf | hf
    · exact c.bk f hf
    · rw [List.mem_singleton.mp hf]; exact pk
  · rw [List.map_append, List.nodup_append]
    refine ⟨c.dis, by simp, fun x hx y hy => ?_⟩
    obtain ⟨e, he, rfl⟩ := List.mem_map.mp hx
    simp only [List.map_cons, List.map_nil, List.mem_singleton] at hy
    rw [hy]
    exact pb e he
end
end
end DL
set_option Elab.async false
set_option linter.all false
set_option maxRecDepth 100000
set_option maxHeartbeats 2000000
namespace DL
open PySem PySem.Spec PyProof.Rows L2
end DL
set_option Elab.async false
set_option linter.all false
set_option maxRecDepth 100000
set_option maxHeartbeats 2000000
namespace DL
open PySem PySem.Spec PyProof.Rows L2
abbrev blc (ps : Prs) (c : Str) : List Str := c :: ord ps (some c)
def mixV (ps : Prs) (d : Str) (u v : Str → Int) : Str → Int := fun x => if x ∈ blc ps d then v x else u x
structure ClsV (ps : Prs) (B : List Str) (P : (Str → Int) → Prop) : Prop where
  on : ∀ u v, (∀ x ∈ B, u x = v x) → P u → P v
  mix : ∀ d ∈ B, ∀ u v, P u → P v → (∀ x ∈ B, x ∈ abv ps d → u x = v x) → P (mixV ps d u v)
def PartP (ps : Prs) (P : (Str → Int) → Prop) (c : Str) : (Str → Int) → Prop := fun u => ∃ w, P w ∧ ∀ x ∈ blc ps c, w x = u x
section
variable {ps : Prs} {P : (Str → Int) → Prop} {o : Option Str}
theorem kid_in (t : Tr ps) {a c : Str} (h : c ∈ kidsOf ps (some a)) : a ∈ namesOf ps := by
  by_cases e : a ∈ namesOf ps
  · exact e
  · rw [kids_out t e] at h; cases h
theorem abv_trans (t : Tr ps) {a b c : Str} (h : a ∈ abv ps b) (k : b ∈ abv ps c) : a ∈ abv ps c := by
  obtain ⟨i, hi⟩ := (abv_iff t).mp h
  obtain ⟨j, hj⟩ := (abv_iff t).mp k
  refine (abv_iff t).mpr ⟨j + 1 + i, ?_⟩
  rw [show j + 1 + i + 1 = (j + 1) + (i + 1) by omega, upN_add, hj, hi]
theorem ord_rk (t : Tr ps) {o : Option Str} {x : Str} (h : x ∈ ord ps o) : rk ps (some x) < rk ps o := rk_ord t h
theorem blk_trans (t : Tr ps) {c x d : Str} (hx : x ∈ blc ps c) (hc : c ∈ namesOf ps) (hd : d ∈ ord ps (some x)) : d ∈ blc ps c := by
  rcases List.mem_cons.mp hx with rfl | hx
  · exact List.mem_cons_of_mem _ hd
  · refine List.mem_cons_of_mem _ ?_
    have hxn := ord_names hx
    have hdn := ord_names hd
    exact (ord_iff t hc hdn).mpr (abv_trans t ((ord_iff t hc hxn).mp hx) ((ord_iff t hxn hdn).mp hd))
theorem blk_up (t : Tr ps) {c z : Str} (hc : c ∈ namesOf ps) (h : z ∈ blc ps c) : ∃ i, upN ps i (some z) = some c := by
  rcases List.mem_cons.mp h with rfl | h
  · exact ⟨0, rfl⟩
  · obtain ⟨k, hk⟩ := (abv_iff t).mp ((ord_iff t hc (ord_names h)).mp h)
    exact ⟨k + 1, hk⟩
theorem blk_one (t : Tr ps) {c d z : Str} (hc : c ∈ kidsOf ps o) (hd : d ∈ kidsOf ps o) (h1 : z ∈ blc ps c) (h2 : z ∈ blc ps d) : c = d := by
  obtain ⟨i, hi⟩ := blk_up t (kids_names hc) h1
  obtain ⟨j, hj⟩ := blk_up t (kids_names hd) h2
  exact same_kid t hc hd hi hj
theorem ord_blk (t : Tr ps) {x : Str} : x ∈ ord ps o ↔ ∃ c ∈ kidsOf ps o, x ∈ blc ps c := by
  rw [ord_eq t, List.mem_flatMap]
theorem kid_above (t : Tr ps) {c x : Str} (hc : c ∈ kidsOf ps o) (hx : x ∈ ord ps o) (ha : x ∈ abv ps c) : False := by
  rw [abv_upto, kid_over t hc] at ha
  cases o with
  | none => rw [upto_none] at ha; cases ha
  | some a =>
    have han := kid_in t hc
    rw [upto_some t han] at ha
    have r1 := ord_rk t hx
    rcases List.mem_append.mp ha with ha | ha
    · have := ord_rk t ((ord_iff t (abv_names t ha) han).mpr ha)
      omega
    · rw [List.mem_singleton.mp ha] at r1
      exact absurd r1 (Nat.lt_irrefl _)
theorem blk_above (t : Tr ps) {c d x : Str} (hc : c ∈ kidsOf ps o) (hd : d ∈ blc ps c) (hx : x ∈ ord ps o) (ha : x ∈ abv ps d) : x ∈ blc ps c := by
  obtain ⟨c', hc', hx'⟩ := (ord_blk t).mp hx
  have hdn : d ∈ namesOf ps := by
    rcases List.mem_cons.mp hd with rfl | hd
    · exact kids_names hc
    · exact ord_names hd
  have hd' := blk_trans t hx' (kids_names hc') ((ord_iff t (abv_names t ha) hdn).mpr ha)
  rw [blk_one t hc hc' hd hd']
  exact hx'
theorem mixV_in {d x : Str} {u v : Str → Int} (h : x ∈ blc ps d) : mixV ps d u v x = v x := if_pos h
theorem mixV_out {d x : Str} {u v : Str → Int} (h : x ∉ blc ps d) : mixV ps d u v x = u x := if_neg h
theorem ClsV.part (t : Tr ps) (C : ClsV ps (ord ps o) P) {c : Str} (hc : c ∈ kidsOf ps o) : ClsV ps (blc ps c) (PartP ps P c) := by
  refine ⟨fun u v h ⟨w, hw, e⟩ => ⟨w, hw, fun x hx => (e x hx).trans (h x hx)⟩, fun d hd u v ⟨w1, h1, e1⟩ ⟨w2, h2, e2⟩ ha => ?_⟩
  have hdo : d ∈ ord ps o := (ord_blk t).mpr ⟨c, hc, hd⟩
  refine ⟨mixV ps d w1 w2, C.mix d hdo w1 w2 h1 h2 fun x hx hxa => ?_, fun x hx => ?_⟩
  · have hb := blk_above t hc hd hx hxa
    rw [e1 x hb, e2 x hb]
    exact ha x hb hxa
  · unfold mixV
    split
    · exact e2 x hx
    · exact e1 x hx
theorem ClsV.split (t : Tr ps) (C : ClsV ps (ord ps o) P) (ne : ∃ w, P w) {u : Str → Int} : P u ↔ ∀ c ∈ kidsOf ps o, PartP ps P c u := by
  refine ⟨fun h c _ => ⟨u, h, fun x _ => rfl⟩, fun h => ?_⟩
  have key : ∀ cs : List Str, (∀ c ∈ cs, c ∈ kidsOf ps o) → ∃ w, P w ∧ ∀ c ∈ cs, ∀ x ∈ blc ps c, w x = u x := by
    intro cs
    induction cs with
    | nil => intro _; obtain ⟨w, hw⟩ := ne; exact ⟨w, hw, fun c hc => (by cases hc)⟩
    | cons c cs ih =>
      intro hcs
      obtain ⟨w, hw, e⟩ := ih fun d hd => hcs d (List.mem_cons_of_mem _ hd)
      have hck := hcs c List.mem_cons_self
      obtain ⟨w2, hw2, e2⟩ := h c hck
      refine ⟨mixV ps c w w2, C.mix c ((ord_blk t).mpr ⟨c, hck, List.mem_cons_self⟩) w w2 hw hw2 fun x hx hxa => (kid_above t hck hx hxa).elim, fun d hd x hx => ?_⟩
      rcases List.mem_cons.mp hd with rfl | hd
      · rw [mixV_in hx]; exact e2 x hx
      · by_cases hxc : x ∈ blc ps c
        · rw [mixV_in hxc]; exact e2 x hxc
        · rw [mixV_out hxc]; exact e d hd x hx
  obtain ⟨w, hw, e⟩ := key _ fun c hc => hc
  refine C.on w u (fun x hx => ?_) hw
  obtain ⟨c, hc, hxc⟩ := (ord_blk t).mp hx
  exact e c hc x hxc
end
def RowsP (B : List Str) (rows : List (List Int)) : (Str → Int) → Prop := fun v => B.map v ∈ rows
end DL
set_option Elab.async false
set_option linter.all false
set_option maxRecDepth 100000
set_option maxHeartbeats 2000000
namespace DL
open PySem PySem.Spec PyProof.Rows L2
section
variable {α β κ ι : Type} [DecidableEq κ]
structure GrpI (key : α → κ) (val : α → β) (rows : List α) (g : List (κ × List β)) : Prop where
  nodup : (g.map Prod.fst).Nodup
  all : ∀ r ∈ rows, key r ∈ g.map Prod.fst
  list : ∀ e ∈ g, e.2 = (rows.filter fun r => decide (key r = e.1)).map val
  sub : (g.map Prod.fst).Sublist (rows.map key)
  sum : (g.map fun e => e.2.length).sum = rows.length
variable {key : α → κ} {val : α → β} {rows : List α} {g : List (κ × List β)}
theorem GrpI.nil : GrpI key val [] [] := ⟨List.nodup_nil, fun r hr => (by cases hr), fun e he => (by cases he), List.Sublist.refl _, rfl⟩
theorem GrpI.snoc (h : GrpI key val rows g) {r : α} (hk : key r ∉ g.map Prod.fst) : GrpI key val (rows ++ [r]) (g ++ [(key r, [val r])]) := by
  refine ⟨?_, fun q hq => ?_, fun f hf => ?_, ?_, ?_⟩
  · rw [List.map_append, List.nodup_append]
    refine ⟨h.nodup, by simp, fun x hx y hy e => ?_⟩
    simp only [List.map_cons, List.map_nil, List.mem_singleton] at hy
    exact hk (hy ▸ e ▸ hx)
  · rw [List.map_append]
    rcases List.mem_append.mp hq with hq | hq
    · exact List.mem_append_left _ (h.all q hq)
    · rw [List.mem_singleton.mp hq]
      exact List.mem_append_right _ (by simp)
  · rw [List.filter_append, List.map_append]
    rcases List.mem_append.mp hf with hf | hf
    · rw [← h.list f hf, List.filter_cons, if_neg]
      · simp
      · intro h2
        exact hk (of_decide_eq_true h2 ▸ List.mem_map.mpr ⟨f, hf, rfl⟩)
    · rw [List.mem_singleton.mp hf]
      dsimp only
      rw [List.filter_eq_nil_iff.mpr (fun (q : α) hq (h2 : decide (key q = key r) = true) => hk (of_decide_eq_true h2 ▸ h.all q hq)), List.filter_cons, if_pos (decide_eq_true rfl)]
      rfl
  · rw [List.map_append, List.map_append]
    exact h.sub.append (List.Sublist.refl _)
  · rw [List.map_append, List.sum_append, h.sum, List.length_append]
    rfl
/-- of each key the first thing -/
structure FstI (key : α → κ) (rows : List α) (g : List (κ × α)) : Prop where
  nodup : (g.map Prod.fst).Nodup
  all : ∀ r ∈ rows, key r ∈ g.map Prod.fst
  mem : ∀ e ∈ g, e.2 ∈ rows ∧ key e.2 = e.1
theorem FstI.nil : FstI key [] [] := ⟨List.nodup_nil, fun r hr => (by cases hr), fun e he => (by cases he)⟩
theorem FstI.keep {g : List (κ × α)} (h : FstI key rows g) {r : α} (hk : key r ∈ g.map Prod.fst) : FstI key (rows ++ [r]) g := by
  refine ⟨h.nodup, fun q hq => ?_, fun e he => ⟨List.mem_append_left _ (h.mem e he).1, (h.mem e he).2⟩⟩
  rcases List.mem_append.mp hq with hq | hq
  · exact h.all q hq
  · rw [List.mem_singleton.mp hq]; exact hk
theorem FstI.snoc {g : List (κ × α)} (h : FstI key rows g) {r : α} (hk : key r ∉ g.map Prod.fst) : FstI key (rows ++ [r]) (g ++ [(key r, r)]) := by
  refine ⟨?_, fun q hq => ?_, fun e he => ?_⟩
  · rw [List.map_append, List.nodup_append]
    refine ⟨h.nodup, by simp, fun x hx y hy e => ?_⟩
    simp only [List.map_cons, List.map_nil, List.mem_singleton] at hy
    exact hk (hy ▸ e ▸ hx)
  · rw [List.map_append]
    rcases List.mem_append.mp hq with hq | hq
    · exact List.mem_append_left _ (h.all q hq)
    · rw [List.mem_singleton.mp hq]
      exact List.mem_append_right _ (by simp)
  · rcases List.mem_append.mp he with he | he
    · exact ⟨List.mem_append_left _ (h.mem e he).1, (h.mem e he).2⟩
    · rw [List.mem_singleton.mp he]
      exact ⟨List.mem_append_right _ (by simp), rfl⟩
end
end DL
set_option Elab.async false
set_option linter.all false
set_option maxRecDepth 100000
set_option maxHeartbeats 2000000
namespace DL
open PySem PySem.Spec PyProof.Rows L2
structure PoolK (ps : Prs) (held : List Bun) : Prop where
  hok : HOk ps 1000 held
  ne : NonE held
  nd : held.Nodup
theorem PoolK.nil {ps : Prs} : PoolK ps [] := ⟨fun b hb => (by cases hb), fun b hb => (by cases hb), List.nodup_nil⟩
section
variable {ps : Prs} {held x : List Bun} {c : Str} {es : List Ent} {cs : List Str} {parts : List Nat}
abbrev hd0 (r : List Int) : Int := r.headD 0
def RGrp (rows : List (List Int)) (g : List (Int × List (List Int))) : Prop := GrpI hd0 List.tail rows g
theorem tl_mem {rows : List (List Int)} (hn : ∀ r ∈ rows, r ≠ []) {a : Int} {r : List Int} : r ∈ (rows.filter fun q => decide (hd0 q = a)).map List.tail ↔ a :: r ∈ rows := by
  rw [List.mem_map]
  constructor
  · rintro ⟨q, hq, rfl⟩
    obtain ⟨h1, h2⟩ := List.mem_filter.mp hq
    obtain ⟨x, xs, rfl⟩ := List.exists_cons_of_ne_nil (hn q h1)
    have : x = a := of_decide_eq_true h2
    rw [← this]
    exact h1
  · intro h
    exact ⟨a :: r, List.mem_filter.mpr ⟨h, decide_eq_true rfl⟩, rfl⟩
structure EntG (ps : Prs) (c : Str) (held : List Bun) (g : List (Int × List (List Int))) (es : List Ent) : Prop where
  keys : es.map Prod.fst = g.map Prod.fst
  parts : ∀ (i : Nat) (e : Ent) (f : Int × List (List Int)), es[i]? = some e → g[i]? = some f → PartR held (kidsOf ps (some c)) e.2 ∧ SameR (prodR (e.2.map (rowsB held))) f.2
theorem EntG.nil : EntG ps c held [] [] := ⟨rfl, fun i e f h => (by simp at h)⟩
theorem EntG.snoc {g : List (Int × List (List Int))} (h : EntG ps c held g es) {e : Ent} {f : Int × List (List Int)} (h0 : e.1 = f.1) (h1 : PartR held (kidsOf ps (some c)) e.2) (h2 : SameR (prodR (e.2.map (rowsB held))) f.2) : EntG ps c held (g ++ [f]) (es ++ [e]) := by
  have hl : es.length = g.length := by simpa using congrArg List.length h.keys
  refine ⟨by rw [List.map_append, List.map_append, h.keys]; simp [h0], fun i e' f' he hf => ?_⟩
  by_cases hi : i < es.length
  · rw [List.getElem?_append_left hi] at he
    rw [List.getElem?_append_left (hl ▸ hi)] at hf
    exact h.parts i e' f' he hf
  · rw [List.getElem?_append_right (by omega)] at he hf
    have h3 : i - es.length = 0 := by have := get_lt he; simp at this; omega
    have h4 : i - g.length = 0 := by omega
    rw [h3] at he
    rw [h4] at hf
    cases he
    cases hf
    exact ⟨h1, h2⟩
theorem EntG.rows {g : List (Int × List (List Int))} {rows : List (List Int)} (h : EntG ps c held g es) (G : RGrp rows g) (hn : ∀ r ∈ rows, r ≠ []) : SameR (entRows (rowsB held) es) rows := by
  have hl : es.length = g.length := by simpa using congrArg List.length h.keys
  intro r
  cases r with
  | nil =>
    refine ⟨fun hr => ?_, fun hr => absurd rfl (hn _ hr)⟩
    unfold entRows at hr
    obtain ⟨e, _, h2⟩ := List.mem_flatMap.mp hr
    obtain ⟨q, _, e2⟩ := List.mem_map.mp h2
    cases e2
  | cons v r =>
    rw [mem_ent]
    constructor
    · rintro ⟨e, he, rfl, hr⟩
      obtain ⟨i, hi⟩ := List.getElem?_of_mem he
      have hil := get_lt hi
      have hf : g[i]? = some g[i] := List.getElem?_eq_getElem (by omega)
      obtain ⟨_, h2⟩ := h.parts i e _ hi hf
      have h3 := (h2 r).mp hr
      rw [G.list _ (List.getElem_mem (by omega))] at h3
      have ek : e.1 = g[i].1 := by
        have := congrArg (fun l => l[i]?) h.keys
        simp only [List.getElem?_map, hi, hf, Option.map_some, Option.some.injEq] at this
        exact this
      rw [ek]
      exact (tl_mem hn).mp h3
    · intro hr
      have hk := G.all _ hr
      obtain ⟨f, hf, e1⟩ := List.mem_map.mp hk
      obtain ⟨i, hi⟩ := List.getElem?_of_mem hf
      have hil := get_lt hi
      have he : es[i]? = some es[i] := List.getElem?_eq_getElem (by omega)
      have ek : es[i].1 = f.1 := by
        have := congrArg (fun l => l[i]?) h.keys
        simp only [List.getElem?_map, hi, he, Option.map_some, Option.some.injEq] at this
        exact this
      refine ⟨es[i], List.getElem_mem _, by rw [ek, e1]; rfl, ?_⟩
      obtain ⟨_, h2⟩ := h.parts i _ f he hi
      refine (h2 r).mpr ?_
      rw [G.list f hf, e1]
      exact (tl_mem hn).mpr hr
structure PrtG (ps : Prs) (o : Option Str) (P : (Str → Int) → Prop) (held : List Bun) (n : Nat) (parts : List Nat) : Prop where
  len : parts.length = n
  part : PartR held ((kidsOf ps o).take n) parts
  rows : ∀ (j p : Nat) (c : Str), parts[j]? = some p → (kidsOf ps o)[j]? = some c → ∀ v, blkV ps v c ∈ rowsB held p ↔ PartP ps P c v
theorem PrtG.nil {o : Option Str} {P : (Str → Int) → Prop} : PrtG ps o P held 0 [] := ⟨rfl, rfl, fun j p c h => (by simp at h)⟩
theorem PrtG.snoc {n k : Nat} {o : Option Str} {P : (Str → Int) → Prop} (h : PrtG ps o P held n parts) {b : Bun} (hc : (kidsOf ps o)[n]? = some c) (hk : held[k]? = some b) (hb : b.1 = c) (hr : ∀ v, blkV ps v c ∈ rowsB held k ↔ PartP ps P c v) : PrtG ps o P held (n + 1) (parts ++ [k]) := by
  refine ⟨by rw [List.length_append, h.len]; rfl, ?_, fun j p d hp hd => ?_⟩
  · have hp := h.part
    unfold PartR at hp ⊢
    rw [List.take_add_one, hc, List.map_append, List.map_append, hp]
    simp [hk, hb]
  · by_cases hj : j < parts.length
    · rw [List.getElem?_append_left hj] at hp
      exact h.rows j p d hp hd
    · rw [List.getElem?_append_right (by omega)] at hp
      have h3 : j - parts.length = 0 := by have := get_lt hp; simp at this; omega
      rw [h3] at hp
      cases hp
      have : j = n := by have := h.len; omega
      subst this
      rw [hc] at hd
      cases hd
      exact hr
theorem PrtG.done (t : Tr ps) {m : Nat} {o : Option Str} {rows : List (List Int)} (h : PrtG ps o (RowsP (ord ps o) rows) held (kidsOf ps o).length parts) (hh : HOk ps m held) (hw : ∀ r ∈ rows, r.length = (ord ps o).length) (ne : rows ≠ []) (C : ClsV ps (ord ps o) (RowsP (ord ps o) rows)) : PartR held (kidsOf ps o) parts ∧ SameR (prodR (parts.map (rowsB held))) rows := by
  have hp : PartR held (kidsOf ps o) parts := by
    have := h.part
    rw [List.take_length] at this
    exact this
  refine ⟨hp, ?_⟩
  have key : ∀ v : Str → Int, (ord ps o).map v ∈ prodR (parts.map (rowsB held)) ↔ (ord ps o).map v ∈ rows := fun v => by
    rw [blk_ord t, mem_prod t hh hp, ← blk_ord t]
    obtain ⟨r0, rs, hr0⟩ := List.exists_cons_of_ne_nil ne
    have hr0m : r0 ∈ rows := by rw [hr0]; exact List.mem_cons_self
    have hsp := C.split t ⟨valR (ord ps o) r0, by unfold RowsP; rw [map_valR (ord_nodup t o) (hw r0 hr0m)]; exact hr0m⟩ (u := v)
    refine Iff.trans ⟨fun g c hc => ?_, fun g i p c e1 e2 => ?_⟩ hsp.symm
    · obtain ⟨i, hi⟩ := List.getElem?_of_mem hc
      have hil := get_lt hi
      have hpl : i < parts.length := by rw [h.len]; exact hil
      have hp2 : parts[i]? = some parts[i] := List.getElem?_eq_getElem hpl
      exact (h.rows i _ c hp2 hi v).mp (g i _ c hp2 hi)
    · exact (h.rows i p c e1 e2 v).mpr (g c (List.mem_of_getElem? e2))
  have hlen : ∀ r ∈ prodR (parts.map (rowsB held)), r.length = (ord ps o).length := fun r hr => by
    rw [ord_sum t]
    refine prodR_lens (rss := parts.map (rowsB held)) (by simp [hp.len]) (fun i rs d e1 e2 q hq => ?_) r hr
    rw [List.getElem?_map, Option.map_eq_some_iff] at e1 e2
    obtain ⟨p, hp3, rfl⟩ := e1
    obtain ⟨c, hc, rfl⟩ := e2
    obtain ⟨b, hb, rfl⟩ := hp.get hp3 hc
    exact rows_wide t hh hb q hq
  intro r
  constructor
  · intro hr
    have e := map_valR (ord_nodup t o) (hlen r hr)
    rw [← e] at hr ⊢
    exact (key _).mp hr
  · intro hr
    have e := map_valR (ord_nodup t o) (hw r hr)
    rw [← e] at hr ⊢
    exact (key _).mpr hr
end
end DL
set_option Elab.async false
set_option linter.all false
set_option maxRecDepth 100000
set_option maxHeartbeats 2000000
namespace DL
open PySem PySem.Spec PyProof.Rows L2
section
variable {κ α β : Type} {M M0 : Mu} {k : Addr} {b : List (κ × Addr × List DV)}
/-- the cells hold these groups -/
def GrpD (kd : α → κ) (f : β → DV) (b : List (κ × Addr × List DV)) (g : List (α × List β)) : Prop := b.map (fun e => (e.1, e.2.2)) = g.map fun e => (kd e.1, e.2.map f)
theorem GrpD.get {kd : α → κ} {f : β → DV} {g : List (α × List β)} (h : GrpD kd f b g) {i : Nat} {e : κ × Addr × List DV} (hi : b[i]? = some e) : ∃ x, g[i]? = some x ∧ e.1 = kd x.1 ∧ e.2.2 = x.2.map f := by
  have := congrArg (fun l => l[i]?) h
  simp only [List.getElem?_map, hi, Option.map_some] at this
  obtain ⟨x, hx, e2⟩ := Option.map_eq_some_iff.mp this.symm
  injection e2 with e3 e4
  exact ⟨x, hx, e3.symm, e4.symm⟩
theorem GrpD.snoc {kd : α → κ} {f : β → DV} {g : List (α × List β)} (h : GrpD kd f b g) (p : Addr) (x : α) (y : β) : GrpD kd f (b ++ [(kd x, p, [f y])]) (g ++ [(x, [y])]) := by
  unfold GrpD at h ⊢
  rw [List.map_append, List.map_append, h]
  rfl
end
end DL
set_option Elab.async false
set_option linter.all false
set_option maxRecDepth 100000
set_option maxHeartbeats 2000000
namespace DL
open PySem PySem.Spec PyProof.Rows L2
end DL
set_option Elab.async false
set_option linter.all false
set_option maxRecDepth 100000
set_option maxHeartbeats 4000000
namespace DL
open PySem PySem.Spec PyProof.Rows L2
def ROwn (W : Wd) (sp2 : Sp2) : Addr → Addr → Hp → Prop := fun a b H => ∃ (G : Hp) (d e : DV), Same G H ∧ Dat W G d (.ref a) ∧ Dat W G e (.ref b) ∧ ∀ M Q2 E2, Q2 (.b true) M → sp2 [d, e] M Q2 E2
def DOwn (W : Wd) (C : Addr) (sp2 : Sp2) : Eqv := fun x y H => DFlat x y H ∨ DIns C (ROwn W sp2) x y H
theorem rown_mon {W : Wd} {sp2 : Sp2} : ∀ a b H H', Ext H H' → ROwn W sp2 a b H → ROwn W sp2 a b H' := fun a b H H' e h => by
  obtain ⟨G, d, e', h1, h2, h3, h4⟩ := h
  exact ⟨G, d, e', fun c o hc => e c o (h1 c o hc), h2, h3, h4⟩
theorem rep_no {W : Wd} {G H : Hp} (s : Same G H) : ∃ F, Rep W G (fun _ => none) F H ∧ ∀ (G' H' : Hp) (M' : Mu), Same G G' → Rep W G' M' F H' → Ext H H' := by
  refine ⟨fun a => match G a with | none => H a | some _ => none, ⟨s, fun a o h => ?_, fun a o h => ?_, fun a o h => by cases h⟩, fun G' H' M' s' R a o h => ?_⟩
  · skip
    cases e : G a with
    | none => rw [e] at h; exact h
    | some u => rw [e] at h; cases h
  · skip
    cases e : G a with
    | none => exact ⟨rfl, rfl⟩
    | some u => rw [e] at h; cases h
  · cases e : G a with
    | none => exact R.fr a o (by rw [e]; exact h)
    | some u =>
      have h1 := s a u e
      rw [h] at h1
      cases h1
      exact R.ex a o (s' a o e)
theorem spEq_of {W : Wd} {sp2 : Sp2} : ∀ vs H Q E, spEq (ROwn W sp2) vs H Q E → lift W sp2 vs H Q E := by
  rintro vs H Q E ⟨a, b, rfl, ⟨G, d, e, s, hd, he, h⟩, q⟩
  obtain ⟨F, R, hF⟩ := rep_no (W := W) s
  refine ⟨G, F, [d, e], fun _ => none, fun x _ => x = .b true, fun _ _ _ _ => False, R, datL_cons' hd (datL_cons' he datL_nil'), h _ _ _ rfl, fun x v G' M' H' s' R' dv hx => ?_, fun C ns ds dd G' M' H' s' R' hx hf => False.elim hf⟩
  subst hx
  rw [dat_v.mp dv]
  exact q H' (hF G' H' M' s' R')
theorem Rep.grow {W : Wd} {G F H H' : Hp} {M : Mu} (R : Rep W G M F H) (e : Ext H H') : Rep W G M F H' where
  ex := fun a o h => e a o (R.ex a o h)
  fr := fun a o h => e a o (R.fr a o h)
  fd := R.fd
  mu := fun a o h => by
    obtain ⟨h1, h2⟩ := R.mu a o h
    obtain ⟨u, hu⟩ := h2.there
    exact ⟨h1, h2.heap (by rw [e a u hu, hu])⟩
def OwnI (C : Addr) (sp2 : Sp2) (d e : DV) : Prop := (∃ x, d = .v x ∧ e = .v x ∧ flatV x = true ∧ eqV x x = true) ∨ ∃ ns xs ns' xs', d = .obj C ns xs ∧ e = .obj C ns' xs' ∧ ∀ M Q2 E2, Q2 (.b true) M → sp2 [d, e] M Q2 E2
def OwnP (C : Addr) (sp2 : Sp2) : List DV → List DV → Prop
  | [], [] => True
  | d :: ds, e :: es => OwnI C sp2 d e ∧ OwnP C sp2 ds es
  | _, _ => False
theorem own_prs {W : Wd} {C : Addr} {sp2 : Sp2} {G H : Hp} (s : Same G H) : ∀ {ds es : List DV} {xs ys : List V}, OwnP C sp2 ds es → DatL W G ds xs → DatL W G es ys → L2.Prs (DOwn W C sp2) xs ys H
  | [], [], xs, ys, _, h1, h2 => by
    rw [datL_nil.mp h1, datL_nil.mp h2]
    exact L2.Prs.nil
  | d :: ds, e :: es, xs, ys, h, h1, h2 => by
    obtain ⟨x, xs, rfl, hx, h1⟩ := datL_cons.mp h1
    obtain ⟨y, ys, rfl, hy, h2⟩ := datL_cons.mp h2
    refine L2.Prs.cons ?_ (own_prs s h.2 h1 h2)
    rcases h.1 with ⟨z, rfl, rfl, f1, f2⟩ | ⟨ns, zs, ns', zs', rfl, rfl, q⟩
    · rw [dat_v.mp hx, dat_v.mp hy]
      exact .inl ⟨f1, f1, f2⟩
    · obtain ⟨a, dx, vs, rfl, ha, _⟩ := dat_obj.mp (id hx)
      obtain ⟨b, dy, ws, rfl, hb, _⟩ := dat_obj.mp (id hy)
      exact .inr ⟨a, b, dx, dy, _, _, rfl, rfl, s a _ ha, s b _ hb, G, _, _, s, hx, hy, q⟩
  | [], _ :: _, _, _, h, _, _ => False.elim h
  | _ :: _, [], _, _, h, _, _ => False.elim h
theorem OwnI.str {C : Addr} {sp2 : Sp2} {z : Str} : OwnI C sp2 (.s z) (.s z) := .inl ⟨.str z, rfl, rfl, rfl, by rw [eqV_str]; exact decide_eq_true rfl⟩
end DL
set_option Elab.async false
set_option linter.all false
set_option maxRecDepth 100000
set_option maxHeartbeats 4000000
namespace DL
open PySem PySem.Spec PyProof.Rows L2
end DL
set_option Elab.async false
set_option linter.all false
set_option maxRecDepth 100000
set_option maxHeartbeats 4000000
namespace DL
open PySem PySem.Spec PyProof.Rows L2
theorem lex_cons (a : Int) (x y : List Int) : HT.lexLt (a :: x) (a :: y) = HT.lexLt x y := by
  rw [HT.lexLt_cons, if_pos rfl]
theorem lex_app : ∀ (r x y : List Int), HT.lexLt (r ++ x) (r ++ y) = HT.lexLt x y
  | [], x, y => rfl
  | a :: r, x, y => by rw [List.cons_append, List.cons_append, lex_cons, lex_app r x y]
end DL
set_option Elab.async false
set_option linter.all false
set_option maxRecDepth 100000
set_option maxHeartbeats 4000000
namespace DL
open PySem PySem.Spec PyProof.Rows L2
section
variable {ps : Prs} {c : Str}
def dropC (ps : Prs) (c : Str) : Prs := ps.filter fun p => decide (p.1 ≠ c)
theorem names_drop : namesOf (dropC ps c) = (namesOf ps).filter fun x => decide (x ≠ c) := by
  unfold namesOf dropC
  rw [List.filter_map]
  rfl
theorem kids_drop (o : Option Str) : kidsOf (dropC ps c) o = (kidsOf ps o).filter fun x => decide (x ≠ c) := by
  unfold kidsOf dropC
  rw [List.filter_map, List.filter_filter, List.filter_filter]
  refine congrArg (List.map _) (List.filter_congr fun p _ => ?_)
  show (decide (p.2 = o) && decide (p.1 ≠ c)) = (decide (p.1 ≠ c) && decide (p.2 = o))
  rw [Bool.and_comm]
end
end DL
set_option Elab.async false
set_option linter.all false
set_option maxRecDepth 100000
set_option maxHeartbeats 4000000
namespace DL
open PySem PySem.Spec PyProof.Rows L2
end DL
set_option Elab.async false
set_option linter.all false
set_option maxRecDepth 100000
set_option maxHeartbeats 4000000
namespace DL
open PySem PySem.Spec PyProof.Rows L2
end DL
set_option Elab.async false
set_option linter.all false
set_option maxRecDepth 100000
set_option maxHeartbeats 4000000
namespace DL
open PySem PySem.Spec PyProof.Rows L2
structure SameT (ps qs : Prs) : Prop where
  kids : ∀ o, kidsOf ps o = kidsOf qs o
  names : ∀ x, x ∈ namesOf ps ↔ x ∈ namesOf qs
section
variable {ps qs : Prs} {c : Str} {m : Nat} {bs : List Bun}
theorem SameT.refl (ps : Prs) : SameT ps ps := ⟨fun _ => rfl, fun _ => Iff.rfl⟩
theorem SameT.symm (h : SameT ps qs) : SameT qs ps := ⟨fun o => (h.kids o).symm, fun x => (h.names x).symm⟩
theorem SameT.trans {rs : Prs} (h : SameT ps qs) (k : SameT qs rs) : SameT ps rs := ⟨fun o => (h.kids o).trans (k.kids o), fun x => (h.names x).trans (k.names x)⟩
theorem SameT.drop (h : SameT ps qs) : SameT (dropC ps c) (dropC qs c) := ⟨fun o => by rw [kids_drop, kids_drop, h.kids], fun x => by rw [names_drop, names_drop, List.mem_filter, List.mem_filter, h.names]⟩
theorem SameT.over (h : SameT ps qs) (t : Tr ps) (u : Tr qs) {x : Str} (hx : x ∈ namesOf ps) : overOf ps x = overOf qs x := by
  have := over_kid hx
  rw [h.kids] at this
  exact (kid_over u this).symm
theorem SameT.hok (h : SameT ps qs) (k : HOk ps m bs) : HOk qs m bs := fun b hb => by
  obtain ⟨h1, h2, h3⟩ := k b hb
  rw [h.kids] at h2
  exact ⟨(h.names _).mp h1, h2, h3⟩
theorem SameT.fo {ts : Option (List Nat)} (h : SameT ps qs) (k : FoldOk ps m bs ts) : FoldOk qs m bs ts := ⟨k.len, h.hok k.hok, k.ne, fun l e => by rw [← h.kids]; exact k.tops l e⟩
end
end DL
set_option Elab.async false
set_option linter.all false
set_option maxRecDepth 100000
set_option maxHeartbeats 2000000
namespace DL
open PySem PySem.Spec PyProof.Rows L2 LamX NdefX
end DL
set_option Elab.async false
set_option linter.all false
set_option maxRecDepth 100000
set_option maxHeartbeats 2000000
namespace DL
open PySem PySem.Spec PyProof.Rows L2 LamX NdefX
end DL
set_option Elab.async false
set_option linter.all false
set_option maxRecDepth 100000
set_option maxHeartbeats 2000000
namespace DL
open PySem PySem.Spec PyProof.Rows L2 LamX NdefX
end DL
set_option Elab.async false
set_option linter.all false
set_option maxRecDepth 100000
set_option maxHeartbeats 2000000
namespace DL
open PySem PySem.Spec PyProof.Rows L2 LamX NdefX
end DL
set_option Elab.async false
set_option linter.all false
set_option maxRecDepth 100000
set_option maxHeartbeats 2000000
namespace DL
open PySem PySem.Spec PyProof.Rows L2 LamX NdefX
end DL
set_option Elab.async false
set_option linter.all false
set_option maxRecDepth 100000
set_option maxHeartbeats 2000000
namespace DL
open PySem PySem.Spec PyProof.Rows L2 LamX NdefX
end DL
set_option Elab.async false
set_option linter.all false
set_option maxRecDepth 100000
set_option maxHeartbeats 2000000
namespace DL
open PySem PySem.Spec PyProof.Rows L2
end DL
set_option Elab.async false
set_option linter.all false
set_option maxRecDepth 100000
set_option maxHeartbeats 2000000
namespace DL
open PySem PySem.Spec PyProof.Rows L2
inductive All2 {α β : Type} (R : α → β → Prop) : List α → List β → Prop
  | nil : All2 R [] []
  | cons {a : α} {b : β} {l : List α} {m : List β} (h : R a b) (t : All2 R l m) : All2 R (a :: l) (b :: m)
section
variable {α β : Type} {R S : α → β → Prop}
theorem All2.len : ∀ {l : List α} {m : List β}, All2 R l m → l.length = m.length
  | _, _, .nil => rfl
  | _, _, .cons _ t => by rw [List.length_cons, List.length_cons, t.len]
theorem All2.imp (h : ∀ a b, R a b → S a b) : ∀ {l : List α} {m : List β}, All2 R l m → All2 S l m
  | _, _, .nil => .nil
  | _, _, .cons g t => .cons (h _ _ g) (t.imp h)
theorem All2.snoc {a : α} {b : β} (h : R a b) : ∀ {l : List α} {m : List β}, All2 R l m → All2 R (l ++ [a]) (m ++ [b])
  | _, _, .nil => .cons h .nil
  | _, _, .cons g t => .cons g (t.snoc h)
end
def Cpy (pi ps : Prs) (bs held : List Bun) (k n : Nat) : Prop := ∃ b hb, bs[k]? = some b ∧ held[n]? = some hb ∧ hb.1 = b.1 ∧ ∀ v, blkV ps v b.1 ∈ rowsB held n ↔ blkV pi v b.1 ∈ rowsB bs k
/-- a pool: bunches along a tree, none without entries, none twice -/
structure PK (ps : Prs) (m : Nat) (held : List Bun) : Prop where
  hok : HOk ps m held
  ne : NonE held
  nd : held.Nodup
theorem PK.nil {ps : Prs} {m : Nat} : PK ps m [] := ⟨fun b hb => (by cases hb), fun b hb => (by cases hb), List.nodup_nil⟩
abbrev Dn := List (Nat × Nat)
structure DnI (pi ps : Prs) (bs held : List Bun) (d : Dn) : Prop where
  nd : (d.map Prod.fst).Nodup
  cp : ∀ e ∈ d, Cpy pi ps bs held e.1 e.2
theorem DnI.nil {pi ps : Prs} {bs held : List Bun} : DnI pi ps bs held [] := ⟨List.nodup_nil, fun e h => by cases h⟩
theorem DnI.len {pi ps : Prs} {bs held : List Bun} {d : Dn} (h : DnI pi ps bs held d) : d.length ≤ bs.length := by
  have := nodup_len (n := bs.length) h.nd fun x hx => by
    obtain ⟨e, he, rfl⟩ := List.mem_map.mp hx
    obtain ⟨b, _, h1, _⟩ := h.cp e he
    exact get_lt h1
  rw [List.length_map] at this
  exact this
theorem DnI.snoc {pi ps : Prs} {bs held : List Bun} {d : Dn} (h : DnI pi ps bs held d) {k n : Nat} (hk : k ∉ d.map Prod.fst) (c : Cpy pi ps bs held k n) : DnI pi ps bs held (d ++ [(k, n)]) := by
  refine ⟨?_, fun e he => ?_⟩
  · rw [List.map_append, List.nodup_append]
    exact ⟨h.nd, by simp, fun a ha b hb => by
      rw [List.map_singleton, List.mem_singleton] at hb
      subst hb
      exact fun e => hk (e ▸ ha)⟩
  · rcases List.mem_append.mp he with he | he
    · exact h.cp e he
    · rw [List.mem_singleton.mp he]; exact c
/-- two trees with an upper part in common, and the tree of both -/
structure JnT (ps1 ps2 ps : Prs) : Prop where
  t1 : Tr ps1
  t2 : Tr ps2
  t : Tr ps
  kids : ∀ o, kidsOf ps o = kidsOf ps1 o ++ (kidsOf ps2 o).filter (fun c => decide (c ∉ namesOf ps1))
  up1 : ∀ o c, c ∈ kidsOf ps1 o → c ∈ namesOf ps2 → c ∈ kidsOf ps2 o
  up2 : ∀ o c, c ∈ kidsOf ps2 o → c ∈ namesOf ps1 → c ∈ kidsOf ps1 o
section
variable {ps1 ps2 ps : Prs} {m1 m2 m : Nat} {bs1 bs2 held : List Bun}
theorem JnT.mem (J : JnT ps1 ps2 ps) {o : Option Str} {c : Str} : c ∈ kidsOf ps o ↔ c ∈ kidsOf ps1 o ∨ c ∈ kidsOf ps2 o := by
  rw [J.kids, List.mem_append, List.mem_filter, decide_eq_true_eq]
  constructor
  · rintro (h | ⟨h, _⟩)
    · exact .inl h
    · exact .inr h
  · rintro (h | h)
    · exact .inl h
    · by_cases hc : c ∈ namesOf ps1
      · exact .inl (J.up2 o c h hc)
      · exact .inr ⟨h, hc⟩
/-- a number found for a column, or none: its rows are the rows asked for -/
def RelV (ps : Prs) (held : List Bun) (P : Str → (Str → Int) → Prop) (c : Str) : Option Nat → Prop
  | some n => ∃ hb, held[n]? = some hb ∧ hb.1 = c ∧ ∀ v, blkV ps v c ∈ rowsB held n ↔ P c v
  | none => ∀ v, ¬ P c v
/-- rows of both of two bunches -/
def PB (ps1 ps2 : Prs) (bs1 bs2 : List Bun) (k1 k2 : Nat) (c : Str) (v : Str → Int) : Prop := blkV ps1 v c ∈ rowsB bs1 k1 ∧ blkV ps2 v c ∈ rowsB bs2 k2
abbrev KnD := List ((Nat × Nat) × Option Nat)
structure KnI (ps1 ps2 ps : Prs) (bs1 bs2 held : List Bun) (d : KnD) : Prop where
  nd : (d.map Prod.fst).Nodup
  cp : ∀ e ∈ d, ∃ b1 b2, bs1[e.1.1]? = some b1 ∧ bs2[e.1.2]? = some b2 ∧ b2.1 = b1.1 ∧ RelV ps held (PB ps1 ps2 bs1 bs2 e.1.1 e.1.2) b1.1 e.2
theorem KnI.nil : KnI ps1 ps2 ps bs1 bs2 held [] := ⟨List.nodup_nil, fun e h => by cases h⟩
theorem KnI.len {d : KnD} (h : KnI ps1 ps2 ps bs1 bs2 held d) : d.length ≤ bs1.length * bs2.length := by
  have hlt : ∀ x ∈ d.map Prod.fst, x.1 < bs1.length ∧ x.2 < bs2.length := fun x hx => by
    obtain ⟨e, he, rfl⟩ := List.mem_map.mp hx
    obtain ⟨b1, b2, g1, g2, _⟩ := h.cp e he
    exact ⟨get_lt g1, get_lt g2⟩
  have h2 : ((d.map Prod.fst).map fun x : Nat × Nat => x.1 * bs2.length + x.2).Nodup := by
    have : ∀ l : List (Nat × Nat), (∀ x ∈ l, x.2 < bs2.length) → l.Nodup → (l.map fun x : Nat × Nat => x.1 * bs2.length + x.2).Nodup := by
      intro l
      induction l with
      | nil => intro _ _; exact List.nodup_nil
      | cons a l ih =>
        intro hl hn
        rw [List.nodup_cons] at hn
        rw [List.map_cons, List.nodup_cons]
        refine ⟨fun hm => hn.1 ?_, ih (fun x hx => hl x (List.mem_cons_of_mem _ hx)) hn.2⟩
        obtain ⟨b, hb, e⟩ := List.mem_map.mp hm
        have l1 := hl a List.mem_cons_self
        have l2 := hl b (List.mem_cons_of_mem _ hb)
        have e1 : b.1 = a.1 := by
          have d1 : (b.1 * bs2.length + b.2) / bs2.length = b.1 := by
            rw [Nat.mul_comm, Nat.mul_add_div (by omega), Nat.div_eq_of_lt l2, Nat.add_zero]
          have d2 : (a.1 * bs2.length + a.2) / bs2.length = a.1 := by
            rw [Nat.mul_comm, Nat.mul_add_div (by omega), Nat.div_eq_of_lt l1, Nat.add_zero]
          rw [← d1, ← d2]
          exact congrArg (· / bs2.length) e
        have e' : b.1 * bs2.length + b.2 = a.1 * bs2.length + a.2 := e
        have e2 : b.2 = a.2 := by rw [e1] at e'; omega
        have : b = a := Prod.ext e1 e2
        exact this ▸ hb
    exact this _ (fun x hx => (hlt x hx).2) h.nd
  have := nodup_len (n := bs1.length * bs2.length) h2 fun y hy => by
    obtain ⟨x, hx, rfl⟩ := List.mem_map.mp hy
    obtain ⟨l1, l2⟩ := hlt x hx
    have := Nat.mul_le_mul_right bs2.length (Nat.succ_le_of_lt l1)
    rw [Nat.succ_mul] at this
    show x.1 * bs2.length + x.2 < _
    omega
  simpa using this
theorem KnI.snoc {d : KnD} (h : KnI ps1 ps2 ps bs1 bs2 held d) {k1 k2 : Nat} {q : Option Nat} (hk : (k1, k2) ∉ d.map Prod.fst) {b1 b2 : Bun} (e1 : bs1[k1]? = some b1) (e2 : bs2[k2]? = some b2) (ec : b2.1 = b1.1) (r : RelV ps held (PB ps1 ps2 bs1 bs2 k1 k2) b1.1 q) : KnI ps1 ps2 ps bs1 bs2 held (d ++ [((k1, k2), q)]) := by
  refine ⟨?_, fun e he => ?_⟩
  · rw [List.map_append, List.nodup_append]
    exact ⟨h.nd, by simp, fun a ha b hb => by
      rw [List.map_singleton, List.mem_singleton] at hb
      subst hb
      exact fun e => hk (by rw [← show a = (k1, k2) from e]; exact ha)⟩
  · rcases List.mem_append.mp he with he | he
    · exact h.cp e he
    · rw [List.mem_singleton.mp he]; exact ⟨b1, b2, e1, e2, ec, r⟩
structure BSt where
  held : List Bun
  kn : KnD
  d1 : Dn
  d2 : Dn
structure BI (ps1 ps2 ps : Prs) (m : Nat) (bs1 bs2 : List Bun) (st : BSt) : Prop where
  pk : PK ps m st.held
  kn : KnI ps1 ps2 ps bs1 bs2 st.held st.kn
  i1 : DnI ps1 ps bs1 st.held st.d1
  i2 : DnI ps2 ps bs2 st.held st.d2
  sz : st.held.length ≤ st.kn.length + st.d1.length + st.d2.length
theorem BI.nil : BI ps1 ps2 ps m bs1 bs2 ⟨[], [], [], []⟩ := ⟨PK.nil, KnI.nil, DnI.nil, DnI.nil, Nat.le_refl _⟩
theorem BI.few {st : BSt} (h : BI ps1 ps2 ps m bs1 bs2 st) : st.held.length ≤ bs1.length * bs2.length + bs1.length + bs2.length := by
  have h1 := h.sz
  have h2 := h.kn.len
  have h3 := h.i1.len
  have h4 := h.i2.len
  omega
/-- more found, of columns that stand deeper -/
structure BX (ps1 : Prs) (bs1 : List Bun) (r : Nat) (st st' : BSt) : Prop where
  held : ∃ x, st'.held = st.held ++ x
  kn : ∃ z, st'.kn = st.kn ++ z ∧ ∀ e ∈ z, ∀ b, bs1[e.1.1]? = some b → rk ps1 (some b.1) < r
theorem BX.refl {r : Nat} {st : BSt} : BX ps1 bs1 r st st := ⟨⟨[], (List.append_nil _).symm⟩, [], (List.append_nil _).symm, fun e h => by cases h⟩
theorem BX.trans {r : Nat} {a b c : BSt} (h : BX ps1 bs1 r a b) (k : BX ps1 bs1 r b c) : BX ps1 bs1 r a c := by
  obtain ⟨⟨x, hx⟩, z, hz, hz2⟩ := h
  obtain ⟨⟨y, hy⟩, u, hu, hu2⟩ := k
  refine ⟨⟨x ++ y, by rw [hy, hx, List.append_assoc]⟩, z ++ u, by rw [hu, hz, List.append_assoc], fun e he => ?_⟩
  rcases List.mem_append.mp he with he | he
  · exact hz2 e he
  · exact hu2 e he
theorem BX.mono {r s : Nat} {a b : BSt} (h : BX ps1 bs1 r a b) (hr : r ≤ s) : BX ps1 bs1 s a b := by
  obtain ⟨hx, z, hz, hz2⟩ := h
  exact ⟨hx, z, hz, fun e he b hb => Nat.lt_of_lt_of_le (hz2 e he b hb) hr⟩
/-- a pair that isn't found yet isn't found by what stands deeper -/
theorem BX.new {r k1 k2 : Nat} {a b : BSt} (h : BX ps1 bs1 r a b) {b1 : Bun} (e1 : bs1[k1]? = some b1) (hr : r ≤ rk ps1 (some b1.1)) (hk : (k1, k2) ∉ a.kn.map Prod.fst) : (k1, k2) ∉ b.kn.map Prod.fst := by
  obtain ⟨_, z, hz, hz2⟩ := h
  rw [hz, List.map_append]
  intro hm
  rcases List.mem_append.mp hm with hm | hm
  · exact hk hm
  · obtain ⟨e, he, e2⟩ := List.mem_map.mp hm
    have := hz2 e he b1 (by rw [e2]; exact e1)
    omega
end
end DL
set_option Elab.async false
set_option linter.all false
set_option maxRecDepth 100000
set_option maxHeartbeats 2000000
namespace DL
open PySem PySem.Spec PyProof.Rows L2
end DL
set_option Elab.async false
set_option linter.all false
set_option maxRecDepth 100000
set_option maxHeartbeats 2000000
namespace DL
open PySem PySem.Spec PyProof.Rows L2
end DL
set_option Elab.async false
set_option linter.all false
set_option maxRecDepth 100000
set_option maxHeartbeats 2000000
namespace DL
open PySem PySem.Spec PyProof.Rows L2
end DL
set_option Elab.async false
set_option linter.all false
set_option maxRecDepth 100000
set_option maxHeartbeats 2000000
namespace DL
open PySem PySem.Spec PyProof.Rows L2
/-- the same round, nothing cut off -/
def rndX : Nat → Nat
  | 0 => 0
  | k + 1 => rndX k * 5 + 1
theorem rndX_add (a : Nat) : ∀ b, rndX (a + b) = rndX b + rndX a * (4 * rndX b + 1)
  | 0 => by simp [rndX]
  | b + 1 => by
    have ih := rndX_add a b
    show rndX (a + b) * 5 + 1 = (rndX b * 5 + 1) + rndX a * (4 * (rndX b * 5 + 1) + 1)
    rw [ih]
    have e : rndX a * (4 * (rndX b * 5 + 1) + 1) = rndX a * (4 * rndX b + 1) * 5 := by
      rw [Nat.mul_assoc]
      congr 1
      omega
    rw [e]
    omega
theorem rndX_two (a : Nat) : rndX (2 * a) = 2 * (rndX a * (2 * rndX a + 1)) := by
  rw [Nat.two_mul, rndX_add]
  generalize rndX a = x
  have e1 : x * (4 * x + 1) = 4 * (x * x) + x := by rw [Nat.mul_add, Nat.mul_one, Nat.mul_left_comm]
  have e2 : x * (2 * x + 1) = 2 * (x * x) + x := by rw [Nat.mul_add, Nat.mul_one, Nat.mul_left_comm]
  rw [e1, e2]
  omega
theorem rndX_par : ∀ a, rndX a % 2 = a % 2
  | 0 => rfl
  | a + 1 => by
    have := rndX_par a
    show (rndX a * 5 + 1) % 2 = _
    omega
theorem two_pow_odd {e x y : Nat} (hy : y % 2 = 1) (h : 2 ^ e ∣ x * y) : 2 ^ e ∣ x := by
  refine Nat.Coprime.dvd_of_dvd_mul_right ?_ h
  refine Nat.Coprime.pow_left e ?_
  rw [Nat.coprime_iff_gcd_eq_one]
  have h1 := Nat.gcd_dvd_left 2 y
  have h2 := Nat.gcd_dvd_right 2 y
  have h3 : Nat.gcd 2 y ≤ 2 := Nat.le_of_dvd (by decide) h1
  have h0 : 0 < Nat.gcd 2 y := Nat.gcd_pos_of_pos_left _ (by decide)
  by_cases h4 : Nat.gcd 2 y = 2
  · rw [h4] at h2
    omega
  · omega
theorem rndX_val : ∀ (n d e : Nat), d ≤ n → 2 ^ e ∣ rndX d → 2 ^ e ∣ d
  | n, 0, e, _, _ => Nat.dvd_zero _
  | 0, d + 1, _, hd, _ => absurd hd (Nat.not_succ_le_zero _)
  | n + 1, d + 1, 0, _, _ => Nat.one_dvd _
  | n + 1, d + 1, e + 1, hd, h => by
    have hp := rndX_par (d + 1)
    rw [Nat.pow_succ, Nat.mul_comm] at h ⊢
    have h2 : rndX (d + 1) % 2 = 0 := by obtain ⟨z, hz⟩ := h; rw [hz, Nat.mul_assoc, Nat.mul_mod_right]
    obtain ⟨a, ha⟩ : ∃ a, d + 1 = 2 * a := ⟨(d + 1) / 2, by omega⟩
    rw [ha] at h ⊢
    rw [rndX_two] at h
    have h3 := Nat.dvd_of_mul_dvd_mul_left (by decide) h
    have h4 := two_pow_odd (by omega) h3
    exact Nat.mul_dvd_mul_left 2 (rndX_val n a e (by omega) h4)
theorem rndX_pow : ∀ e, 2 ^ e ∣ rndX (2 ^ e)
  | 0 => Nat.one_dvd _
  | e + 1 => by
    rw [Nat.pow_succ, Nat.mul_comm, rndX_two]
    exact Nat.mul_dvd_mul_left 2 (Nat.dvd_mul_right_of_dvd (rndX_pow e) _)
theorem lcgN_X (m : Nat) : ∀ k, lcgN m k = rndX k % (m + 1)
  | 0 => (Nat.zero_mod _).symm
  | k + 1 => by
    show (lcgN m k * 5 + 1) % (m + 1) = (rndX k * 5 + 1) % (m + 1)
    rw [lcgN_X m k]
    simp [Nat.add_mod, Nat.mul_mod]
theorem rndX_apart {e a b : Nat} (hab : a < b) (hb : b < 2 ^ e) : rndX a % 2 ^ e ≠ rndX b % 2 ^ e := fun h => by
  obtain ⟨d, rfl⟩ : ∃ d, b = d + a := ⟨b - a, by omega⟩
  have e1 := rndX_add d a
  have h1 : (rndX d * (4 * rndX a + 1)) % 2 ^ e = 0 := by
    have h2 : (rndX a + rndX d * (4 * rndX a + 1)) % 2 ^ e = rndX a % 2 ^ e := by rw [← e1]; exact h.symm
    have h3 : (rndX a + rndX d * (4 * rndX a + 1)) - rndX a = rndX d * (4 * rndX a + 1) := by omega
    have h4 := Nat.sub_mod_eq_zero_of_mod_eq h2
    rw [h3] at h4
    exact h4
  have h5 := rndX_val d d e (Nat.le_refl _) (two_pow_odd (by omega) (Nat.dvd_of_mod_eq_zero h1))
  have := Nat.le_of_dvd (by omega) h5
  omega
/-- masks of powers of two -/
def Msk (m : Nat) : Prop := m = 7 ∨ m = 31 ∨ m = 127 ∨ m = 511 ∨ m = 2047 ∨ m = 8191
theorem Msk.pow {m : Nat} (h : Msk m) : ∃ e, m + 1 = 2 ^ e := by
  rcases h with h | h | h | h | h | h <;> subst h
  · exact ⟨3, rfl⟩
  · exact ⟨5, rfl⟩
  · exact ⟨7, rfl⟩
  · exact ⟨9, rfl⟩
  · exact ⟨11, rfl⟩
  · exact ⟨13, rfl⟩
theorem Msk.big {m : Nat} (h : Msk m) : 7 ≤ m ∧ m ≤ 8191 ∧ m % 2 = 1 := by rcases h with h | h | h | h | h | h <;> subst h <;> exact ⟨by decide, by decide, by decide⟩
theorem lcg_each {m : Nat} (hm : Msk m) {j : Nat} (hj : j ≤ m) : ∃ b, b ≤ m ∧ lcgN m b = j := by
  obtain ⟨e, he⟩ := hm.pow
  have hn : ((List.range (m + 1)).map (lcgN m)).Nodup := by
    rw [List.Nodup, List.pairwise_map]
    refine List.pairwise_lt_range.imp_of_mem fun {a b} ha hb hab => ?_
    have hb := List.mem_range.mp hb
    rw [lcgN_X, lcgN_X, he]
    exact rndX_apart hab (by omega)
  by_cases c : j ∈ (List.range (m + 1)).map (lcgN m)
  · obtain ⟨b, hb, e⟩ := List.mem_map.mp c
    exact ⟨b, Nat.le_of_lt_succ (List.mem_range.mp hb), e⟩
  · exfalso
    have h1 : (j :: (List.range (m + 1)).map (lcgN m)).Nodup := List.nodup_cons.mpr ⟨c, hn⟩
    have := nat_nodup_len _ (List.range (m + 1)) h1 fun x hx => by
      rcases List.mem_cons.mp hx with rfl | hx
      · exact List.mem_range.mpr (by omega)
      · obtain ⟨b, _, rfl⟩ := List.mem_map.mp hx
        rw [lcgN_X]
        exact List.mem_range.mpr (Nat.mod_lt _ (Nat.succ_pos _))
    simp at this
    omega
theorem lcg_turn {m : Nat} (hm : Msk m) : ∀ k, lcgN m (m + 1 + k) = lcgN m k
  | 0 => by
    obtain ⟨e, he⟩ := hm.pow
    rw [Nat.add_zero, lcgN_X, he]
    exact Nat.mod_eq_zero_of_dvd (rndX_pow e)
  | k + 1 => by
    show (lcgN m (m + 1 + k) * 5 + 1) % (m + 1) = _
    rw [lcg_turn hm k]
    rfl
theorem lcg_from {m : Nat} (hm : Msk m) {i j : Nat} (hi : i ≤ m) (hj : j ≤ m) : ∃ k, k ≤ m ∧ lcgI m i k = j := by
  obtain ⟨x, hx, rfl⟩ := lcg_each hm hi
  obtain ⟨y, hy, rfl⟩ := lcg_each hm hj
  by_cases c : y < x
  · exact ⟨y + (m + 1) - x, by omega, by rw [lcgN_add, show x + (y + (m + 1) - x) = m + 1 + y by omega, lcg_turn hm]⟩
  · exact ⟨y - x, by omega, by rw [lcgN_add, show x + (y - x) = y by omega]⟩
theorem runs_meet {m : Nat} (hm : Msk m) (h : Int) {j : Nat} (hj : j ≤ m) : ∃ n, n ≤ m + 12 ∧ runI m (SetTable.bits h) n = j := by
  obtain ⟨k, hk, e⟩ := lcg_from hm (runI_le m (SetTable.bits h) 12) hj
  refine ⟨k + 12, by omega, ?_⟩
  rw [Nat.add_comm, runI_tail (bits_lt h), e]
theorem ways_meet {m : Nat} (hm : Msk m) (h : Int) {j : Nat} (hj : j ≤ m) : ∃ k, k < 10 * SetTable.turns m ∧ way m h k = j := by
  obtain ⟨n, hn, e⟩ := runs_meet hm h hj
  obtain ⟨k, hk, e2⟩ := run_nth m (SetTable.bits h) n
  exact ⟨k, by show k < 10 * (m + 15); omega, by show (nth m _ k).j = j; rw [e2]; exact e⟩
theorem way_in {m : Nat} {h : Int} {k : Nat} : way m h k ≤ m := by
  have r := runEnd_bd (m := m) (i := SetTable.bits h % (m + 1)) (Nat.le_of_lt_succ (Nat.mod_lt _ (Nat.succ_pos _)))
  have q := nth_in (m := m) k (runAt m (SetTable.bits h % (m + 1)) (SetTable.bits h)) (by unfold runAt; dsimp only; omega)
  exact Nat.le_trans (Nat.le_add_right _ _) q
end DL
set_option Elab.async false
set_option linter.all false
set_option maxRecDepth 100000
set_option maxHeartbeats 2000000
namespace DL
open PySem PySem.Spec PyProof.Rows L2
/-- each hash is found again on its way -/
structure TbOk (t : SetTable) (hs : List Int) : Prop where
  rs : Ris t.place.toList
  no : t.dummies = #[]
  len : t.place.size = hs.length
  msk : Msk t.mask
  lim : ∀ x ∈ t.place.toList, x ≤ t.mask
  found : ∀ (i : Nat) (h : Int) (j : Nat), hs[i]? = some h → t.place.toList[i]? = some j → ∃ k, way t.mask h k = j ∧ ∀ c, c < k → way t.mask h c ∈ t.place.toList
variable {t : SetTable} {hs : List Int}
theorem TbOk.len' (T : TbOk t hs) : t.place.toList.length = hs.length := by rw [Array.length_toList, T.len]
theorem TbOk.free (T : TbOk t hs) (hl : hs.length ≤ t.mask) (h : Int) : ∃ K, K < 10 * SetTable.turns t.mask ∧ way t.mask h K ∉ t.place.toList ∧ ∀ c, c < K → way t.mask h c ∈ t.place.toList := by
  have hlen := T.len'
  obtain ⟨j, hj, hn⟩ := st_missing t.place.toList (t.mask + 1) (by omega)
  obtain ⟨n, hn1, e⟩ := ways_meet T.msk h (j := j) (by omega)
  obtain ⟨K, g1, g2, g3⟩ := st_least (p := fun c => way t.mask h c ∉ t.place.toList) n (by rw [e]; exact hn)
  exact ⟨K, by omega, g2, fun c hc => Classical.not_not.mp (g3 c hc)⟩
theorem TbOk.ahead (T : TbOk t hs) {h : Int} {K i j : Nat} (hK : way t.mask h K ∉ t.place.toList) (hi : hs[i]? = some h) (hj : t.place.toList[i]? = some j) : ∃ k, k < K ∧ way t.mask h k = j := by
  obtain ⟨k, e, hb⟩ := T.found i h j hi hj
  refine ⟨k, Nat.lt_of_not_le fun c => ?_, e⟩
  rcases Nat.lt_or_eq_of_le c with c | c
  · exact hK (hb K c)
  · rw [c, e] at hK
    exact hK (List.mem_of_getElem? hj)
theorem TbOk.puts (T : TbOk t hs) {h : Int} {K : Nat} (hK : way t.mask h K ∉ t.place.toList) (hb : ∀ c, c < K → way t.mask h c ∈ t.place.toList) :
    ∃ p t', t.put (way t.mask h K) = (t', p) ∧ p ≤ hs.length ∧ p = SetTable.below t.place (way t.mask h K) ∧ TbOk t' (hs.take p ++ h :: hs.drop p) ∧ t'.mask = t.mask ∧ t'.led = t.led ∧ t'.plain = t.plain ∧ t'.fill = hs.length + 1 := by
  have hlen := T.len'
  obtain ⟨j, hj⟩ : ∃ j, j = way t.mask h K := ⟨_, rfl⟩
  have hjm : j ≤ t.mask := hj ▸ way_in
  rw [← hj] at hK ⊢
  have c1 := (below_cut T.rs j).1
  have pl : SetTable.below t.place j ≤ t.place.toList.length := by rw [Array.length_toList]; exact c1
  have ph : SetTable.below t.place j ≤ hs.length := by omega
  have pp := put_place t j
  have psz : (t.put j).1.place.toList.length = hs.length + 1 := by rw [pp, len_ins _ pl, hlen]
  have more : ∀ {x : Nat}, x ∈ t.place.toList → x ∈ (t.put j).1.place.toList := fun hx => by rw [pp]; exact mem_ins.mpr (.inr hx)
  have dm := put_dm T.no j
  refine ⟨SetTable.below t.place j, (t.put j).1, rfl, ph, rfl, ⟨ris_insert T.rs fun e => hK (List.mem_of_getElem? (by rw [Array.getElem?_toList]; exact e)), dm, ?_, T.msk, fun x hx => ?_, fun i h' j' e1 e2 => ?_⟩, rfl, rfl, rfl, ?_⟩
  · rw [len_ins _ ph, ← psz, Array.length_toList]
  · rw [pp] at hx
    exact (mem_ins.mp hx).elim (fun z => z ▸ hjm) (T.lim x)
  · rw [tins_get _ ph] at e1
    rw [pp, tins_get _ pl] at e2
    have old : ∀ i, hs[i]? = some h' → t.place.toList[i]? = some j' → ∃ k, way t.mask h' k = j' ∧ ∀ c, c < k → way t.mask h' c ∈ (t.put j).1.place.toList := fun i e1 e2 =>
      (T.found i h' j' e1 e2).imp fun k q => ⟨q.1, fun c hc => more (q.2 c hc)⟩
    show ∃ k, way t.mask h' k = j' ∧ ∀ c, c < k → way t.mask h' c ∈ (t.put j).1.place.toList
    by_cases c : i < SetTable.below t.place j
    · rw [if_pos c] at e1 e2
      exact old i e1 e2
    · rw [if_neg c] at e1 e2
      by_cases d : i = SetTable.below t.place j
      · rw [if_pos d] at e1 e2
        cases e1
        cases e2
        exact ⟨K, hj.symm, fun c hc => more (hb c hc)⟩
      · rw [if_neg d] at e1 e2
        exact old _ e1 e2
  · show (t.put j).1.place.size + (t.put j).1.dummies.size = hs.length + 1
    rw [dm, ← Array.length_toList, psz]
    rfl
theorem free_at {m : Nat} (hm : Msk m) (ow : Array (Option Nat)) (h : Int) {j : Nat} (hj : j ≤ m) (hf : oAt ow j = none) :
    ∃ K, SetTable.layClean.free m ow (SetTable.turns m) (SetTable.bits h % (m + 1)) (SetTable.bits h) = some (way m h K) ∧ oAt ow (way m h K) = none ∧ ∀ c, c < K → oAt ow (way m h c) ≠ none := by
  obtain ⟨n, hn, e⟩ := runs_meet hm h hj
  have hw : way m h (off m (SetTable.bits h % (m + 1)) (SetTable.bits h) n) = j := by
    unfold way
    rw [nth_off, itL_run]
    exact e
  obtain ⟨K, g1, g2, g3⟩ := st_least (p := fun c => oAt ow (way m h c) = none) _ (by rw [hw]; exact hf)
  refine ⟨K, free_spec m ow _ n _ _ K (by show n < m + 15; omega) g1 (fun c hc => ?_) (by rw [show (nth m _ K).j = way m h K from rfl, g2]; rfl), g2, g3⟩
  have q := g3 c hc
  cases z : oAt ow (way m h c) with
  | none => exact absurd z q
  | some _ => rfl
theorem own_step {m : Nat} (hm : Msk m) {dn : List Int} {ow : Array (Option Nat)} (W : Own m dn ow) (hl : dn.length ≤ m) (h : Int) :
    ∃ j, SetTable.layClean.free m ow (SetTable.turns m) (SetTable.bits h % (m + 1)) (SetTable.bits h) = some j ∧ Own m (dn ++ [h]) (ow.setIfInBounds j (some dn.length)) := by
  obtain ⟨sz, at0, all0, ps, hps, hin⟩ := W
  obtain ⟨j0, g0, n0⟩ := st_missing ps (m + 1) (by omega)
  have e0 : oAt ow j0 = none := Classical.not_not.mp fun c => n0 (hin j0 (by omega) c)
  obtain ⟨K, f1, f2, f3⟩ := free_at hm ow h (by omega : j0 ≤ m) e0
  have wl := way_in (m := m) (h := h) (k := K)
  generalize hw : way m h K = j at f1 f2 wl
  have me := oAt_set_self (owner := ow) (some dn.length) (j := j) (by omega)
  have keep : ∀ {i : Nat}, oAt ow i ≠ none → oAt (ow.setIfInBounds j (some dn.length)) i ≠ none := fun {i} hi => by
    by_cases c : i = j
    · rw [c, me]; intro e; cases e
    · rw [oAt_set_ne _ c]; exact hi
  refine ⟨j, f1, by rw [Array.size_setIfInBounds, sz], fun i k hi e => ?_, fun k hk => ?_, j :: ps, by simp [hps], fun i hi e => ?_⟩
  · by_cases c : i = j
    · rw [c, me] at e
      cases e
      exact ⟨h, K, by simp, hw.trans c.symm, fun c hc => keep (f3 c hc)⟩
    · rw [oAt_set_ne _ c] at e
      obtain ⟨h', K', a1, a2, a3⟩ := at0 i k hi e
      exact ⟨h', K', app_get a1, a2, fun c hc => keep (a3 c hc)⟩
  · rw [List.length_append, List.length_singleton] at hk
    rcases Nat.lt_or_eq_of_le (Nat.le_of_lt_succ hk) with c | c
    · obtain ⟨i, hi, e⟩ := all0 k c
      refine ⟨i, hi, ?_⟩
      rw [oAt_set_ne _ fun z => by rw [z, f2] at e; cases e]
      exact e
    · exact ⟨j, wl, by rw [c]; exact me⟩
  · by_cases c : i = j
    · rw [c]; exact List.mem_cons_self
    · rw [oAt_set_ne _ c] at e
      exact List.mem_cons_of_mem _ (hin i hi e)
theorem own_all {m : Nat} (hm : Msk m) : ∀ (r dn : List Int) (ow : Array (Option Nat)), Own m dn ow → dn.length + r.length ≤ m →
    ∃ ow', r.foldl (stepF m) (some (ow, dn.length)) = some (ow', (dn ++ r).length) ∧ Own m (dn ++ r) ow'
  | [], dn, ow, W, _ => ⟨ow, by simp, by simpa using W⟩
  | h :: r, dn, ow, W, hl => by
    rw [List.length_cons] at hl
    obtain ⟨j, e, W1⟩ := own_step hm W (by omega) h
    obtain ⟨ow', f, W2⟩ := own_all hm r (dn ++ [h]) _ W1 (by simp; omega)
    rw [List.append_assoc, List.length_append, List.length_singleton] at f
    rw [List.append_assoc] at W2
    exact ⟨ow', by rw [List.foldl_cons, stepF_some e]; exact f, W2⟩
theorem laid_ok {m : Nat} (hm : Msk m) {xs : Array Int} (hn : xs.size ≤ m) : ∃ ow, SetTable.layClean m xs = some ow ∧ Own m xs.toList ow := by
  obtain ⟨ow, f, W⟩ := own_all hm xs.toList [] _ (Own.init m) (by simp; omega)
  refine ⟨ow, ?_, by simpa using W⟩
  rw [layClean_eq, show (0 : Nat) = ([] : List Int).length from rfl, f]
  rfl
theorem anew_ok (t : SetTable) {xs : Array Int} {wanted M : Nat} (hw : SetTable.sizeAbove wanted = M + 1) (hM : Msk M) (hn : xs.size ≤ M) :
    ∃ t' od, t.relaid xs wanted = some (t', od) ∧ od.toList.Perm (List.range xs.size) ∧ TbOk t' (od.toList.map fun i => xs.getD i 0) ∧ t'.mask = M ∧ t'.led = t.led ∧ t'.plain = t.plain := by
  obtain ⟨ow, e, W⟩ := laid_ok hM hn
  have hr : t.relaid xs wanted = some (tabOf t M ow, ((liveOf M ow).map (·.2)).toArray) := by
    rw [relaid_eq, hw, Nat.add_sub_cancel, e]
    rfl
  have rl := ris_live (fun j => ow.getD j none) (List.range (M + 1)) List.pairwise_lt_range
  have r1 : Ris ((liveOf M ow).map (·.1)) := rl.1
  have rn : ((liveOf M ow).map (·.1)).Nodup := List.Pairwise.imp (fun h => Nat.ne_of_lt h) r1
  have r2 : ∀ x ∈ (liveOf M ow).map (·.1), x ∈ List.range (M + 1) := rl.2
  have live : ∀ {j k : Nat}, (j, k) ∈ liveOf M ow ↔ j ≤ M ∧ oAt ow j = some k := mem_live W.sz
  have xl : xs.toList.length = xs.size := Array.length_toList
  have rng : ∀ k, k < xs.size → k ∈ (liveOf M ow).map (·.2) := fun k hk => by
    obtain ⟨j, b1, b2⟩ := W.all k (by omega)
    exact List.mem_map.mpr ⟨(j, k), live.mpr ⟨b1, b2⟩, rfl⟩
  have ll : (liveOf M ow).length = xs.size := by
    obtain ⟨ps, p1, p2⟩ := W.ps
    have g1 := nat_nodup_len ((liveOf M ow).map (·.1)) ps rn fun x hx => by
      obtain ⟨⟨y, k⟩, hq, rfl⟩ := List.mem_map.mp hx
      exact p2 y (live.mp hq).1 (by rw [(live.mp hq).2]; exact fun z => nomatch z)
    have g2 := nat_nodup_len (List.range xs.size) ((liveOf M ow).map (·.2)) List.nodup_range fun k hk => rng k (List.mem_range.mp hk)
    rw [List.length_map] at g1 g2
    rw [List.length_range] at g2
    omega
  refine ⟨_, _, hr, perm_range xs.size _ (by simp [ll]) (by simpa using rng), ⟨r1, rfl, by simp [tabOf], hM, fun x hx => Nat.le_of_lt_succ (List.mem_range.mp (r2 x hx)), fun i h j e1 e2 => ?_⟩, rfl, rfl, rfl⟩
  replace e1 : (((liveOf M ow).map (·.2)).map fun i => xs.getD i 0)[i]? = some h := e1
  replace e2 : ((liveOf M ow).map (·.1))[i]? = some j := e2
  rw [List.map_map, List.getElem?_map, Option.map_eq_some_iff] at e1
  rw [List.getElem?_map, Option.map_eq_some_iff] at e2
  obtain ⟨⟨y, k⟩, q1, rfl⟩ := e2
  obtain ⟨q, q2, q3⟩ := e1
  rw [q1] at q2
  cases q2
  obtain ⟨b1, b2⟩ := live.mp (List.mem_of_getElem? q1)
  obtain ⟨h0, K, a1, a2, a3⟩ := W.at_ y k b1 b2
  have e0 : xs.getD k 0 = h0 := by
    rw [Array.getD_eq_getD_getElem?, ← Array.getElem?_toList, a1]
    rfl
  have q3' : xs.getD k 0 = h := q3
  rw [e0] at q3'
  subst q3'
  refine ⟨K, a2, fun c hc => ?_⟩
  show way M h0 c ∈ (liveOf M ow).map (·.1)
  cases z : oAt ow (way M h0 c) with
  | none => exact absurd z (a3 c hc)
  | some u => exact List.mem_map.mpr ⟨(way M h0 c, u), live.mpr ⟨way_in, z⟩, rfl⟩
end DL
set_option Elab.async false
set_option linter.all false
set_option maxRecDepth 100000
set_option maxHeartbeats 4000000
namespace DL
open PySem PySem.Spec PyProof.Rows L2
structure BgT (P : Program) (w : World) (h : Heap) (a : Addr) (L : List (Addr × List Int)) (es : Array (Int × Value)) (ep : Nat) (t : SetTable) : Prop where
  obj : ∃ o, h.get? a = some o ∧ o.ExactSet ∧ o.data = .set es ep t
  its : es.toList = rowsOf P w L
  tb : TbOk t (L.map fun p => thash P w p.2)
  uq : (L.map (·.2)).Nodup
  tp : ∀ p ∈ L, IsT P w h p.2 p.1
  pl : t.plain = true
  ld : w.params.followText "set-order" = true ∨ t.led = true
  rm : L.length * 5 < t.mask * 3
  fw : L.length ≤ 1200
section
variable {P : Program} {w : World} {A : Around} {E : Value → Shared → Prop} {s : Shared} {a : Addr} {L : List (Addr × List Int)} {es : Array (Int × Value)} {ep : Nat} {t : SetTable}
theorem rows_size (h : es.toList = rowsOf P w L) : es.size = L.length := by
  rw [← Array.length_toList, h]
  exact List.length_map _
theorem fits_of {n : Nat} (T : TbOk t (L.map fun p => thash P w p.2)) (hn : n = L.length) (hm : n ≤ t.mask) : t.fits n = true := by
  have h1 := T.len
  rw [List.length_map] at h1
  unfold SetTable.fits SetTable.fill
  rw [T.no, Bool.and_eq_true, beq_iff_eq, decide_eq_true_eq, h1, hn]
  exact ⟨rfl, by simp; omega⟩
theorem BgT.fit (R : BgT P w s.heap a L es ep t) : t.fits es.size = true := fits_of R.tb (rows_size R.its) (by have := R.rm; have := rows_size R.its; omega)
theorem BgT.ent (R : BgT P w s.heap a L es ep t) {i : Nat} {p : Addr × List Int} (h : L[i]? = some p) : es[i]? = some (thash P w p.2, Value.ref p.1) := by
  rw [← Array.getElem?_toList, R.its, rowsOf, List.getElem?_map, h]
  rfl
theorem BgT.stays (R : BgT P w s.heap a L es ep t) : ¬ t.gaveWay = true := by
  unfold SetTable.gaveWay
  rw [R.tb.msk.big.2.2]
  decide
theorem dummy_none (m : Nat) : ∀ (n : Nat) (p : SetTable.Probe), p.dummy = none → (nth m p n).dummy = none
  | 0, _, h => h
  | n + 1, p, h => dummy_none m n (adv m p) (by unfold adv; split <;> exact h)
theorem bg_from (R : BgT P w s.heap a L es ep t) {x : Addr} {k : List Int} (hx : IsT P w s.heap k x) (hu : A.units < cLine) {H : Int} (hH : H = thash P w k) {S0 : SetTable.Probe} (hS0 : S0 = runAt t.mask (SetTable.bits H % (t.mask + 1)) (SetTable.bits H)) {K : Nat} (hKf : K < 10 * SetTable.turns t.mask)
    (hK : way t.mask H K ∉ t.place.toList) (hKb : ∀ c, c < K → way t.mask H c ∈ t.place.toList) {Q : SetFound → Shared → Prop} (yes : k ∈ L.map (·.2) → Q (.there none) s) (no : k ∉ L.map (·.2) → Q (.free (way t.mask H K) false) s) :
    ∀ (f c : Nat) (st : Option SetTable.Probe), st.getD (t.probeStart H) = nth t.mask S0 c → c ≤ K → K - c < f → (∀ (i : Nat) p, L[i]? = some p → p.2 = k → ∃ c', c ≤ c' ∧ c' < K ∧ t.place.toList[i]? = some (way t.mask H c')) →
      wpAny (model P w) A (setSearchFrom a (.ref x) H true f st) Q E s
  | 0, c, st, _, _, hf, _ => absurd hf (Nat.not_lt_zero _)
  | f + 1, c, st, hst, hc, hf, hre => by
    obtain ⟨o, ho, hex, hd⟩ := R.obj
    have wy : ∀ n, (nth t.mask S0 n).j = way t.mask H n := fun n => by rw [hS0]
    have sh : ∀ q, nth t.mask (nth t.mask S0 c) q = nth t.mask S0 (c + q) := fun q => (nth_add t.mask c S0 q).symm
    have wq : ∀ q, (nth t.mask (nth t.mask S0 c) q).j = way t.mask H (c + q) := fun q => by rw [sh, wy]
    have hash : ∀ (i : Nat) p, L[i]? = some p → (es[i]?.map (·.1)).getD 0 = thash P w p.2 := fun i p hp => by
      rw [R.ent hp]
      rfl
    have back : c + (K - c) = K := by omega
    have spec := go_spec t R.tb.rs R.tb.no (fun i => (es[i]?.map (·.1)).getD 0) H (10 * SetTable.turns t.mask) (K - c) (nth t.mask S0 c) (dummy_none t.mask c S0 (by rw [hS0]; rfl)) (by omega) (fun q hq => by rw [wq]; exact hKb _ (by omega)) (by rw [wq, back]; exact hK)
    rw [setSearchFrom_succ]
    refine wpAny_bind (wpAny_setState_of ho hd R.fit ?_)
    dsimp only
    refine wp_if_neg R.stays ?_
    try refine wpAny_bind (wpAny_pure ?_)
    rw [hst]
    rcases spec with ⟨q, i, hq, hi, hh, hno, hpr⟩ | ⟨hno, hpr⟩
    · rw [show t.probe (fun i => (es[i]?.map (·.1)).getD 0) H (nth t.mask S0 c) = _ from hpr, wq, sh]
      dsimp only
      rw [wq] at hi
      have hil : i < L.length := by
        have := get_lt hi
        rw [R.tb.len', List.length_map] at this
        exact this
      obtain ⟨p, hp⟩ : ∃ p, L[i]? = some p := ⟨_, List.getElem?_eq_getElem hil⟩
      have hm := List.mem_of_getElem? hp
      have live : t.slot (way t.mask H (c + q)) = .live i := slot_live R.tb.rs hi
      have goes : wpAny (model P w) A (searchRest a (.ref x) H true f es t (way t.mask H (c + q)) i (nth t.mask S0 (c + (q + 1)))) Q E s := by
        unfold searchRest
        rw [R.ent hp]
        dsimp only
        refine wpAny_bind (wpAny_holding (wpAny_eqBool_tuple hu (R.tp p hm) hx (wpAny_bind (wpAny_setState_of ho hd R.fit ?_))))
        dsimp only
        by_cases hk : p.2 = k
        · exact wp_if_pos (by simp [hk]) (wpAny_pure (yes (List.mem_map.mpr ⟨p, hm, hk⟩)))
        · refine wp_if_neg (by simp [hk]) ?_
          try refine wpAny_bind (wpAny_pure ?_)
          rw [sameMem]
          dsimp only
          simp only [if_true, live, R.ent hp]
          refine wpAny_bind (wpAny_isSame_ref_self (wpAny_bind (wpAny_pure ?_)))
          simp only [if_true]
          refine wp_if_neg (by simp [hk]) (bg_from R hx hu hH hS0 hKf hK hKb yes no f (c + (q + 1)) _ rfl (by omega) (by omega) fun i0 p0 h0 e0 => ?_)
          obtain ⟨c', b1, b2, b3⟩ := hre i0 p0 h0 e0
          refine ⟨c', ?_, b2, b3⟩
          have hash0 := (hash i0 p0 h0).trans ((congrArg (thash P w) e0).trans hH.symm)
          show c + q < c'
          refine Nat.lt_of_not_le fun z => ?_
          rcases Nat.lt_or_eq_of_le z with z | z
          · exact hno (c' - c) i0 (by omega) (by rw [wq, show c + (c' - c) = c' by omega]; exact b3) hash0
          · subst z
            have l0 := slot_live R.tb.rs b3
            rw [live] at l0
            cases l0
            rw [hp] at h0
            cases h0
            exact hk e0
      by_cases hl : t.led = true
      · refine wp_if_neg (by simp [hl]) ?_
        try refine wpAny_bind (wpAny_pure ?_)
        exact goes
      · refine wp_if_pos (by simp [hl]) (wpAny_bind (seen_tup hx (fun y hy => ?_) ?_))
        · obtain ⟨e, he, rfl⟩ := List.mem_map.mp hy
          have he' : e ∈ es := by simp at he; exact he.1
          have he2 : e ∈ es.toList := by simpa using he'
          rw [R.its] at he2
          obtain ⟨p2, m2, rfl⟩ := List.mem_map.mp he2
          exact ⟨p2.2, p2.1, rfl, R.tp p2 m2⟩
        · refine wp_if_neg (by decide) ?_
          try refine wpAny_bind (wpAny_pure ?_)
          exact goes
    · rw [show t.probe (fun i => (es[i]?.map (·.1)).getD 0) H (nth t.mask S0 c) = _ from hpr, wq, back]
      dsimp only
      refine wpAny_pure (no fun hm => ?_)
      obtain ⟨p0, h0, e0⟩ := List.mem_map.mp hm
      obtain ⟨i0, hi0⟩ := List.mem_iff_getElem?.mp h0
      obtain ⟨c', b1, b2, b3⟩ := hre i0 p0 hi0 e0
      exact hno (c' - c) i0 (by omega) (by rw [wq, show c + (c' - c) = c' by omega]; exact b3) ((hash i0 p0 hi0).trans ((congrArg (thash P w) e0).trans hH.symm))
theorem bg_search (R : BgT P w s.heap a L es ep t) {x : Addr} {k : List Int} (hx : IsT P w s.heap k x) (hu : A.units < cLine) {Q : SetFound → Shared → Prop} (yes : k ∈ L.map (·.2) → Q (.there none) s)
    (no : ∀ K, k ∉ L.map (·.2) → way t.mask (thash P w k) K ∉ t.place.toList → (∀ c, c < K → way t.mask (thash P w k) c ∈ t.place.toList) → Q (.free (way t.mask (thash P w k) K) false) s) : wpAny (model P w) A (setSearch a (.ref x) (thash P w k) true) Q E s := by
  have hrm := R.rm
  obtain ⟨K, hKf, hK, hKb⟩ := R.tb.free (by rw [List.length_map]; omega) (thash P w k)
  have h1 := R.tb.msk.big.2.1
  have hf := hKf
  unfold SetTable.turns at hf
  unfold setSearch
  refine bg_from R hx hu rfl rfl hKf hK hKb yes (fun hn => no K hn hK hKb) 100000 0 none rfl (Nat.zero_le _) (by omega) fun i p hp hk => ?_
  have hil : i < t.place.toList.length := by rw [R.tb.len', List.length_map]; exact get_lt hp
  have hj := List.getElem?_eq_getElem hil
  obtain ⟨c, hc, e⟩ := R.tb.ahead hK (by rw [List.getElem?_map, hp, ← hk]; rfl) hj
  exact ⟨c, Nat.zero_le _, hc, by rw [hj, e]⟩
theorem bg_relay {o : PySem.Obj} (ho : s.heap.get? a = some o) (hex : o.ExactSet) (hd : o.data = .set es ep t) (hr : es.toList = rowsOf P w L) (hT : TbOk t (L.map fun p => thash P w p.2)) (hfl : L.length ≤ t.mask) (nd : (L.map (·.2)).Nodup) (tup : ∀ p ∈ L, IsT P w s.heap p.2 p.1)
    (pl : t.plain = true) (ld : w.params.followText "set-order" = true ∨ t.led = true) (fw : L.length ≤ 1200) {wanted M : Nat} (hw : SetTable.sizeAbove wanted = M + 1) (hM : Msk M) (hn : L.length * 5 < M * 3) {Q : Unit → Shared → Prop}
    (hQ : ∀ h' L' es' ep' t', Heap.SameBut a s.heap h' → BgT P w h' a L' es' ep' t' → L'.Perm L → Q () { s with heap := h' }) : wpAny (model P w) A (setRelay a wanted) Q E s := by
  have sz := rows_size hr
  have hMb := hM.big.2.1
  obtain ⟨t', od, e, hp, T, em, el, ep'⟩ := anew_ok t (xs := es.map (·.1)) hw hM (by rw [Array.size_map]; omega)
  rw [Array.size_map, sz] at hp
  obtain ⟨L2, r1, r2, r3⟩ := order_rows L es od hr hp
  rw [← r3] at T
  have sz2 : (od.filterMap (es[·]?)).size = es.size := by rw [rows_size r1, r2.length_eq, sz]
  rw [setRelay_eq]
  refine wpAny_bind (wpAny_setState_of ho hd (fits_of hT sz (by omega)) ?_)
  dsimp only
  refine wp_if_neg (by rw [sizeLine_eq]; omega) ?_
  try refine wpAny_bind (wpAny_pure ?_)
  rw [e]
  dsimp only
  refine wpAny_bind (wp_if_neg (by rw [sz2]; simp) ?_)
  try refine wpAny_bind (wpAny_pure ?_)
  refine wpAny_pure ?_
  dsimp only
  refine wpAny_storeSet_of ho hd (hQ _ L2 _ (ep + 1) t' (Heap.SameBut.update ..) ⟨⟨_, store_at ho hd, ⟨hex.1, hex.2.1, hex.2.2⟩, rfl⟩, r1, T, (r2.map (·.2)).nodup_iff.mpr nd, fun p hpm => isT_same (tup p (r2.mem_iff.mp hpm)) ho hd (Heap.SameBut.update ..), by rw [ep']; exact pl, by rw [el]; exact ld, by rw [r2.length_eq, em]; exact hn, by rw [r2.length_eq]; exact fw⟩ r2) (by rw [sz2, sz, sizeLine_eq]; omega)
/-- how a table that is too full grows -/
theorem grow_to {m n : Nat} (hm : Msk m) (h1 : n * 5 < m * 3) (h2 : (n + 1) * 5 ≥ m * 3) (hn : n < 1200) : ∃ M, Msk M ∧ SetTable.sizeAbove (SetTable.grown (n + 1)) = M + 1 ∧ (n + 1) * 5 < M * 3 ∧ n + 1 ≤ m := by
  rcases hm with h | h | h | h | h | h <;> subst h
  · obtain rfl : n = 4 := by omega
    exact ⟨31, .inr (.inl rfl), by decide +kernel, by decide, by decide⟩
  · obtain rfl : n = 18 := by omega
    exact ⟨127, .inr (.inr (.inl rfl)), by decide +kernel, by decide, by decide⟩
  · obtain rfl : n = 76 := by omega
    exact ⟨511, .inr (.inr (.inr (.inl rfl))), by decide +kernel, by decide, by decide⟩
  · obtain rfl : n = 306 := by omega
    exact ⟨2047, .inr (.inr (.inr (.inr (.inl rfl)))), by decide +kernel, by decide, by decide⟩
  · omega
  · omega
theorem bg_add (R : BgT P w s.heap a L es ep t) {x : Addr} {k : List Int} (hx : IsT P w s.heap k x) (hu : A.units < cLine) (hfw : L.length < 1200) {Q : Bool → Shared → Prop}
    (hQ : ∀ b h' L' es' ep' t', Heap.SameBut a s.heap h' → BgT P w h' a L' es' ep' t' → (k ∈ L.map (·.2) → L' = L) → (k ∉ L.map (·.2) → L'.Perm ((x, k) :: L)) → Q b { s with heap := h' }) : wpAny (model P w) A (setAddHashed a (.ref x) (thash P w k)) Q E s := by
  obtain ⟨o, ho, hex, hd⟩ := R.obj
  have sz := rows_size R.its
  have hrm := R.rm
  unfold setAddHashed
  refine wpAny_holding ?_
  rw [show (100000 : Nat) = 99999 + 1 from rfl, setAddHashedIn_succ]
  refine wpAny_bind (wpAny_setState_of ho hd R.fit ?_)
  dsimp only
  refine wp_if_neg (by simp [byScan, Value.scannable]) ?_
  try refine wpAny_bind (wpAny_pure ?_)
  refine wpAny_bind (bg_search R hx hu (fun hm => wpAny_pure (hQ false s.heap L es ep t (Heap.SameBut.refl a s.heap) R (fun _ => rfl) fun z => absurd hm z)) fun K hm hK hb => ?_)
  dsimp only
  refine wpAny_bind (wpAny_setState_of ho hd R.fit ?_)
  dsimp only
  obtain ⟨p, t1, e1, e2, e3, e4, e5, e6, e7, e8⟩ := R.tb.puts hK hb
  rw [List.length_map] at e2 e8
  have hp1 : t1.plain = true := by rw [e7]; exact R.pl
  rw [e1]
  dsimp only
  first
    | (refine wpAny_bind ?_; refine wp_if_pos hp1 ?_; refine hashBy_tup hx ?_)
    | refine wp_if_pos hp1 (wpAny_bind (hashBy_tup hx ?_))
  simp only [if_true]
  have hin : (SetTable.insertAt es p (thash P w k, Value.ref x)).toList = rowsOf P w (L.take p ++ (x, k) :: L.drop p) := by rw [SetTable.toList_insertAt, rows_put, R.its]
  have pm := put_perm L p (x, k)
  have ln := pm.length_eq
  rw [List.length_cons] at ln
  rw [show (L.map fun p => thash P w p.2).take p ++ thash P w k :: (L.map fun p => thash P w p.2).drop p = (L.take p ++ (x, k) :: L.drop p).map fun p => thash P w p.2 by rw [List.map_append, List.map_cons, List.map_take, List.map_drop]] at e4
  have nd : ((L.take p ++ (x, k) :: L.drop p).map (·.2)).Nodup := (pm.map (·.2)).nodup_iff.mpr (List.nodup_cons.mpr ⟨hm, R.uq⟩)
  have sz1 := rows_size hin
  generalize SetTable.insertAt es p (thash P w k, Value.ref x) = es1 at hin sz1 ⊢
  generalize L.take p ++ (x, k) :: L.drop p = L1 at pm ln e4 nd hin sz1
  refine wpAny_bind (wpAny_storeSet_of ho hd ?_ (by rw [sz1, ln, sizeLine_eq]; omega))
  have sb : Heap.SameBut a s.heap (s.heap.update a (Obj.putSet es1 t1)) := Heap.SameBut.update ..
  have ho1 := store_at (es' := es1) (t' := t1) ho hd
  generalize s.heap.update a (Obj.putSet es1 t1) = h1 at sb ho1 ⊢
  have tup1 : ∀ p ∈ L1, IsT P w h1 p.2 p.1 := fun p hp => by
    rcases List.mem_cons.mp (pm.mem_iff.mp hp) with e | hp
    · exact e ▸ isT_same hx ho hd sb
    · exact isT_same (R.tp p hp) ho hd sb
  have ld1 : w.params.followText "set-order" = true ∨ t1.led = true := by rw [e6]; exact R.ld
  by_cases hf : t1.tooFull = true
  · have full : (L.length + 1) * 5 ≥ t.mask * 3 := by
      have := hf
      unfold SetTable.tooFull at this
      rw [decide_eq_true_eq, e8, e5] at this
      exact this
    obtain ⟨M, hM, hs, hl, hle⟩ := grow_to R.tb.msk hrm full hfw
    first
      | (refine wpAny_bind ?_; refine wp_if_pos (by simp [hf]) ?_)
      | (refine wp_if_pos (by simp [hf]) ?_; refine wpAny_bind ?_)
    rw [sz]
    exact bg_relay (s := { s with heap := h1 }) ho1 ⟨hex.1, hex.2.1, hex.2.2⟩ rfl hin e4 (by rw [e5]; omega) nd tup1 hp1 ld1 (by omega) hs hM (by rw [ln]; exact hl) fun h2 L2 es2 ep2 t2 sb2 R2 pm2 =>
      wpAny_pure (hQ true h2 L2 es2 ep2 t2 (sb.trans sb2) R2 (fun z => absurd z hm) fun _ => pm2.trans pm)
  · first
      | refine wp_if_neg (by simp [hf]) ?_
      | (refine wpAny_bind ?_; refine wp_if_neg (by simp [hf]) ?_; refine wpAny_pure ?_)
    have notfull : ¬ (L.length + 1) * 5 ≥ t1.mask * 3 := fun c => hf (by
      unfold SetTable.tooFull
      rw [decide_eq_true_eq, e8]
      exact c)
    exact wpAny_pure (hQ true h1 L1 es1 (ep + 1) t1 sb ⟨⟨_, ho1, ⟨hex.1, hex.2.1, hex.2.2⟩, rfl⟩, hin, e4, nd, tup1, hp1, ld1, by rw [ln]; omega, by omega⟩ (fun z => absurd z hm) fun _ => pm)
end
end DL
set_option Elab.async false
set_option linter.all false
set_option maxRecDepth 100000
set_option maxHeartbeats 4000000
namespace DL
open PySem PySem.Spec PyProof.Rows L2
section
variable {P : Program} {w : World} {A : Around} {E : Value → Shared → Prop} {s : Shared}
theorem BgT.kept {h h' : Heap} {a : Addr} {L : List (Addr × List Int)} {es : Array (Int × Value)} {ep : Nat} {t : SetTable} (R : BgT P w h a L es ep t) (ha : ∀ o, h.get? a = some o → h'.get? a = some o) (ht : ∀ p ∈ L, IsT P w h' p.2 p.1) : BgT P w h' a L es ep t := by
  obtain ⟨⟨o, ho, r⟩, r1, r2, r3, _, r5, r6, r7, r8⟩ := R
  exact ⟨⟨o, ha o ho, r⟩, r1, r2, r3, ht, r5, r6, r7, r8⟩
abbrev newSet (w : World) : PySem.Obj := { cls := .type "set", dict := none, data := .set #[] 0 (.fresh 0 0 (!w.params.followText "set-order")) }
theorem bg_new {h : Heap} {a : Addr} (ho : h.get? a = some (newSet w)) : BgT P w h a [] #[] 0 (.fresh 0 0 (!w.params.followText "set-order")) := by
  refine ⟨⟨_, ho, ⟨rfl, rfl, rfl⟩, rfl⟩, rfl, ⟨List.Pairwise.nil, rfl, rfl, .inl rfl, fun x hx => (by cases hx), fun i h j hi => (by simp at hi)⟩, List.nodup_nil, fun p hp => (by cases hp), rfl, ?_, (by show 0 * 5 < 7 * 3; decide), Nat.zero_le _⟩
  show w.params.followText "set-order" = true ∨ (!w.params.followText "set-order") = true
  cases w.params.followText "set-order" <;> simp
theorem bg_update {I : Addr} {fp wr : List Addr} {G : Array GenState → Array GenState → Prop} {n : Nat} {Pv : Nat → Value → Prop} {St : Nat → Shared → Prop} {R : Result → Shared → Prop} (W : WalksS P w A.in1 I fp wr G n Pv St) (S : Addr) (hSf : S ∉ fp)
    (ks : List (Addr × List Int)) (hn : n = ks.length) (hfw : ks.length ≤ 1200) (hval : ∀ i v, Pv i v → ∃ p, ks[i]? = some p ∧ v = .ref p.1) (h0 : Heap) (hk : ∀ p ∈ ks, IsT P w h0 p.2 p.1) (hS0 : h0.get? S = none) (hw0 : ∀ b ∈ wr, h0.get? b = none) (hu : A.in1.units < cLine) :
    ∀ (r i : Nat) (s : Shared), n - i = r → i ≤ n → St i s → (∀ b o, h0.get? b = some o → s.heap.get? b = some o) → (∃ L es ep t, BgT P w s.heap S L es ep t ∧ Got ks i L) →
      (∀ s' L es ep t, Moved (S :: wr) G s s' → BgT P w s'.heap S L es ep t → Got ks n L → (∀ b o, h0.get? b = some o → s'.heap.get? b = some o) → R (.ok (.ret .none)) s') →
      codeAny (model P w) A (.builtin "set.update.loop" ⟨[.ref S, .ref I], []⟩) R s := by
  have nw : S ∉ wr := fun h => hSf (W.sub _ h)
  have up : ∀ b ∈ wr, b ∈ S :: wr := fun b hb => List.mem_cons_of_mem _ hb
  have old : ∀ {s s' : Shared}, Moved wr G s s' → (∀ b o, h0.get? b = some o → s.heap.get? b = some o) → ∀ b o, h0.get? b = some o → s'.heap.get? b = some o := fun m k b o e => m.heap b o (fun z => by rw [hw0 b z] at e; cases e) (k b o e)
  have inn : ∀ {i : Nat} {L : List (Addr × List Int)}, Got ks i L → ∀ p ∈ L, p ∈ ks := fun g p hp => List.mem_of_mem_take (g.sub p hp)
  intro r
  induction r with
  | zero =>
    intro i s hr hi hst hkp ⟨L, es, ep, t, hS, g⟩ hR
    obtain rfl : i = n := by omega
    refine codeAny_builtin F.entry_set_update_loop ?_
    rw [Around.under_plainId F.plain_set_update_loop _]
    show wpAny _ A.in1 (pyNext (.ref I) >>= fun _ => _) _ _ s
    refine wpAny_bind (W.done s _ _ hst fun s' hm => ?_)
    exact wpAny_pure (hR s' L es ep t (hm.mono up) (hS.kept (fun o e => hm.heap S o nw e) fun p hp => isT_keep (hk p (inn g p hp)) (old hm hkp)) g (old hm hkp))
  | succ r ih =>
    intro i s hr hi hst hkp ⟨L, es, ep, t, hS, g⟩ hR
    refine codeAny_builtin F.entry_set_update_loop ?_
    rw [Around.under_plainId F.plain_set_update_loop _]
    show wpAny _ A.in1 (pyNext (.ref I) >>= fun _ => _) _ _ s
    refine wpAny_bind (W.item i s _ _ (by omega) hst fun v s' hP hst' hm => ?_)
    obtain ⟨p, hp, rfl⟩ := hval i v hP
    have o1 := old hm hkp
    have S1 : BgT P w s'.heap S L es ep t := hS.kept (fun o e => hm.heap S o nw e) fun q hq => isT_keep (hk q (inn g q hq)) o1
    have x1 : IsT P w s'.heap p.2 p.1 := isT_keep (hk p (List.mem_of_getElem? hp)) o1
    have gl := g.len
    have il := get_lt hp
    show wpAny _ A.in1 (holding [Value.ref p.1] (setAdd S (.ref p.1)) >>= fun _ => _) _ _ s'
    refine wpAny_bind (wpAny_holding ?_)
    unfold setAdd
    refine wpAny_holding (wpAny_bind (wpAny_pyHash_tuple hu x1 ?_))
    refine bg_add (s := { s' with toks := s'.toks + (p.2.length + 1) }) S1 x1 hu (by omega) fun b h' L' es' ep' t' hsb S2 c1 c2 => ?_
    have g2 : Got ks (i + 1) L' := by
      by_cases c : p.2 ∈ L.map (·.2)
      · exact c1 c ▸ g.same hp c
      · exact g.more hp (c2 c)
    have o2 : ∀ b o, h0.get? b = some o → h'.get? b = some o := fun b o e => (hsb.2 b fun z => by rw [z, hS0] at e; cases e).trans (o1 b o e)
    refine wpAny_pure ⟨plainId_quiet F.plain_set_update_loop _, ih (i + 1) _ (by omega) (by omega) (W.frame _ s' _ _ hst' (Nat.le_add_right _ _) fun b hb o e => ?_) o2 ⟨L', es', ep', t', S2, g2⟩ fun s2 L2 es2 ep2 t2 m2 S3 g3 o3 => ?_⟩
    · exact (hsb.2 b fun z => hSf (z ▸ hb)).trans e
    · exact hR s2 L2 es2 ep2 t2 (Moved.trans W.gtrans ((hm.mono up).then_heap (Nat.le_add_right _ _) fun b o hb e => (hsb.2 b fun z => hb (z ▸ List.mem_cons_self)).trans e) m2) S3 g3 o3
set_option maxHeartbeats 8000000 in
theorem bg_set {l : Addr} {items : Array Value} (ks : List (Addr × List Int)) {Q : Value → Shared → Prop} (hh : A.handled = none) (hl : s.heap.IsList l items) (hit : items.toList = ks.map fun p => Value.ref p.1) (hk : ∀ p ∈ ks, IsT P w s.heap p.2 p.1) (hfw : ks.length ≤ 1200) (hu : A.units + 3 < cLine)
    (h : ∀ (h' : Heap) (tk : Nat) L es ep t, BgT P w h' s.heap.objs.size L es ep t → Got ks ks.length L → (∀ b o, s.heap.get? b = some o → h'.get? b = some o) → Q (.ref s.heap.objs.size) { s with heap := h', toks := tk }) : wpAny (model P w) A (call (.type "set") [.ref l]) Q E s := by
  have hisz : items.size = ks.length := by rw [← Array.length_toList, hit, List.length_map]
  obtain ⟨cc, tl, hmro⟩ := F.called_set.mro
  have hmade := F.called_set.made
  have hsub := F.called_set.sub
  refine wpAny_call (codeAny_of_tree ?_)
  show wpAny (model P w) _ (callAny (.type "set") _) _ _ s
  refine wpAny_pure ⟨Code.quiet_builtin _ (by decide +kernel), codeAny_builtin F.entry_type_call ?_⟩
  rw [Around.under_plain (weight_type_call_type "set" [.ref l] []) rfl]
  have hnt := F.called_set.notType
  have hcc := F.called_set.canCreate
  have hct := F.typeCall_set_1 (.ref l)
  repeat (any_goals (first | assumption | wp_step))
  refine codeAny_mono (code_set_led1 (.ref l) (E := E) (Q₁ := fun ob s₁ => ob = .ref s.heap.objs.size ∧ s₁ = { s with heap := s.heap.push (newSet w) }) ⟨rfl, rfl⟩) fun r s₁ hr => ?_
  match r, hr with
  | .error e, hr => exact hr
  | .ok (.ret ob), hr =>
    obtain ⟨rfl, rfl⟩ := hr
    have hS : (s.heap.push (newSet w)).get? s.heap.objs.size = some (newSet w) := Heap.get?_push_size _ rfl
    have hT : Shared.TypeIs { s with heap := s.heap.push (newSet w) } (.ref s.heap.objs.size) "set" := ⟨_, hS, rfl⟩
    have hli := F.called_set.init.lookup
    have hbi := F.called_set.init.bind (.ref s.heap.objs.size)
    repeat (any_goals (first | assumption | wp_step))
    refine codeAny_mono (codeAny_call_builtin (R := wants (fun r s₂ => r = .none ∧ ∃ h' tk L es ep t, s₂ = { s with heap := h', toks := tk } ∧ BgT P w h' s.heap.objs.size L es ep t ∧ Got ks ks.length L ∧ ∀ b o, s.heap.get? b = some o → h'.get? b = some o) E) F.called_set.init.plain F.entry_set_init (check_set_init_1 hT ?_)) fun r₂ s₂ hr₂ => ?_
    · obtain ⟨⟨ocls, odict, odata, oslots⟩, hol, hcl, nl, hdl⟩ := hl
      dsimp only at hcl hdl
      subst hcl hdl
      have hol' := Heap.get?_push_of_some (newSet w) hol
      have s1 := F.sub_list_set
      have s2 := F.sub_list_frozenset
      have s3 : (Value.type "list" == Value.type "dict") = false := by decide
      have hl1 : (s.heap.push (newSet w)).IsList l items := ⟨_, hol', rfl, nl, rfl⟩
      unfold Builtin.«set.__init__» noKeywords Builtin.Frozenset.updateFrom
      generalize hPI : pyIter = PI
      wp_walk
      subst hPI
      refine wpAny_pyIter_list hl1 (wpAny_bind (wpAny_runValue ?_))
      have hlS : l < s.heap.objs.size := Heap.lt_size hol
      have size1 : (s.heap.push (newSet w)).objs.size = s.heap.objs.size + 1 := Heap.size_push ..
      have apart : l ≠ (s.heap.push (newSet w)).objs.size := by rw [size1]; exact Nat.ne_of_lt (Nat.lt_succ_of_lt hlS)
      have beyond : ∀ b, s.heap.objs.size ≤ b → s.heap.get? b = none := fun b hb => by
        cases q : s.heap.get? b with
        | none => rfl
        | some o => exact absurd (Heap.lt_size q) (Nat.not_lt.mpr hb)
      refine bg_update ((Walks.list (by simp [hh]) _ l apart items).toS) s.heap.objs.size (by rw [size1, List.mem_cons, List.mem_singleton, not_or]; exact ⟨Nat.ne_of_lt (Nat.lt_succ_self _), Nat.ne_of_gt hlS⟩) ks hisz hfw (fun i v hv => ?_) s.heap hk (beyond _ (Nat.le_refl _)) (fun b hb => beyond b (by rw [List.mem_singleton.mp hb, size1]; exact Nat.le_succ _)) hu (items.size - 0) 0 _ (by omega) (Nat.zero_le _)
        ⟨⟨_, Heap.get?_push_size _ rfl, rfl, rfl⟩, hl1.push _⟩ (fun b o e => Heap.get?_push_of_some _ (Heap.get?_push_of_some _ e)) ⟨[], #[], 0, _, bg_new (Heap.get?_push_of_some _ hS), Got.zero ks⟩ fun s' L es ep t hm S1 g1 o1 => ?_
      · have q : items.toList[i]? = some v := by rw [Array.getElem?_toList]; exact hv
        rw [hit, List.getElem?_map, Option.map_eq_some_iff] at q
        obtain ⟨p, q1, q2⟩ := q
        exact ⟨p, q1, q2.symm⟩
      · obtain ⟨h', g', d', tk', o'⟩ := s'
        obtain rfl : g' = s.gens := hm.gens
        obtain rfl : d' = s.drawn := hm.drawn
        obtain rfl : o' = s.os := hm.os
        rw [hisz] at g1
        show wpAny (model P w) _ (pure PUnit.unit >>= fun _ => _) _ _ _
        exact wpAny_pure (wpAny_pure ⟨rfl, h', tk', L, es, ep, t, rfl, S1, g1, o1⟩)
    · match r₂, hr₂ with
      | .error e, hr₂ => exact hr₂
      | .ok (.ret v), hr₂ =>
        obtain ⟨rfl, h', tk, L, es, ep, t, rfl, S1, g1, o1⟩ := hr₂
        repeat (any_goals (first | assumption | wp_step))
        exact h _ _ _ _ _ _ S1 g1 o1
end
end DL
set_option Elab.async false
set_option linter.all false
set_option maxRecDepth 100000
set_option maxHeartbeats 4000000
namespace DL
open PySem PySem.Spec PyProof.Rows L2
section
variable {P : Program} {w : World} {A : Around} {E : Value → Shared → Prop} {s : Shared} {a : Addr} {L : List (Addr × List Int)} {es : Array (Int × Value)} {ep : Nat} {t : SetTable}
theorem sorted_bg {Q : Value → Shared → Prop} (R : BgT P w s.heap a L es ep t) (hh : A.handled = none) {d : Nat} (hd : ∀ p ∈ L, p.2.length = d)
    (hQ : ∀ s' p (out : Array Value) (c : Nat) (L' : List (Addr × List Int)), (∀ b o, s.heap.get? b = some o → s'.heap.get? b = some o) → s'.gens = s.gens → s'.os = s.os → s.heap.objs.size ≤ p →
      s'.heap.get? p = some (seqObj "list" out c) → out.toList = L'.map (fun q => Value.ref q.1) → L'.Perm L → L'.Pairwise (fun q r => HT.lexLt q.2 r.2 = true) → Q (.ref p) s') :
    wpAny (model P w) A (call (.builtin "sorted") [.ref a]) Q E s := by
  obtain ⟨o, ho, hex, hdat⟩ := R.obj
  have hsz := rows_size R.its
  have hfew := R.fw
  refine Calls.call_function_entry kind_sorted plain_sorted entry_sorted (args_sorted1 _) ?_
  unfold Builtin.«sorted»
  refine wpAny_bind (m := checkCount "sorted" 1 1 _) (wpAny_pure ?_)
  refine wpAny_bind (collect_set (A := A.in1) hh ⟨o, ho, hex.1, hdat⟩ R.fit (by unfold scanBound; omega) R.tb.rs R.ld fun s1 vs k1 hz g1 o1 pm => ?_)
  have pm' : vs.Perm (L.map fun q => Value.ref q.1) := by
    have e : es.toList.map (·.2) = L.map fun q => Value.ref q.1 := by rw [R.its, rowsOf, List.map_map]; rfl
    rw [← e]; exact pm
  have hvl : vs.length = L.length := by rw [pm'.length_eq, List.length_map]
  refine wpAny_bind (wpAny_newList ?_ (by rw [sizeLine_eq]; omega))
  generalize hT : s1.heap.push (seqObj "list" vs.toArray 0) = h1
  have hoL : h1.get? s1.heap.objs.size = some (seqObj "list" vs.toArray 0) := by rw [← hT]; exact Heap.get?_push_size _ rfl
  have hk : ∀ b u, s.heap.get? b = some u → h1.get? b = some u := fun b u e => by rw [← hT]; exact Heap.get?_push_of_some _ (k1 b u e)
  have tk : ∀ q ∈ L, TS.TupInts h1 (.ref q.1) q.2 := fun q hq => tupInts_of (P := P) (w := w) (isT_keep (R.tp q hq) hk)
  have hmem : ∀ v ∈ vs, ∃ q ∈ L, v = Value.ref q.1 := fun v hv => by
    obtain ⟨q, hq, e⟩ := List.mem_map.mp (pm'.mem_iff.mp hv)
    exact ⟨q, hq, e.symm⟩
  show wpAny _ _ _ _ _ { s1 with heap := h1 }
  refine wpAny_bind (wpAny_holding (wpAny_call_entry slot_list_sort ⟨_, hoL, rfl⟩ entry_list_sort (SrtO.list_sort_ord (ltv := ltT h1) (swo_ltT h1) hoL (by rw [sizeLine_eq]; omega) (fun h2 => ?_) fun out hs hb => ⟨_, rfl, ?_⟩) (args_list_sort _)))
  · refine tups_sortable (s := { s1 with heap := h1 }) (by omega) (fun v hv => ?_) (fun o e => ?_) h1 fun v hv ns x => x.ints
    · obtain ⟨q, hq, rfl⟩ := hmem v hv
      have x := tk q hq
      cases e : q.2 with
      | cons n ns => rw [e] at x; exact ⟨n, ns, x⟩
      | nil =>
        exfalso
        have d0 : d = 0 := by rw [← hd q hq, e]; rfl
        have all0 : ∀ r ∈ L, r.2 = [] := fun r hr => List.eq_nil_of_length_eq_zero (by rw [hd r hr, d0])
        have nd := R.uq
        match L, hvl, all0, nd with
        | [], hvl, _, _ => rw [List.length_nil] at hvl; omega
        | [_], hvl, _, _ => rw [List.length_singleton] at hvl; omega
        | x1 :: x2 :: L, _, all0, nd =>
          rw [List.map_cons, List.map_cons, all0 x1 (by simp), all0 x2 (by simp)] at nd
          simp at nd
    · have e' : some o = some (seqObj "list" vs.toArray 0) := e.symm.trans hoL
      cases e'
      intro c
      exact absurd (Value.type.inj c) (by decide)
  · obtain ⟨L', pL, eL⟩ := perm_map_inv (hb.perm.trans pm') rfl
    obtain ⟨c, hc⟩ := sortedHeap_at (vs := vs) (out := out.toArray) hoL
    have nd' : (L'.map (·.2)).Nodup := (pL.map (·.2)).nodup_iff.mpr R.uq
    have pw : L'.Pairwise (fun q r => HT.lexLt q.2 r.2 = true) := by
      have h1' : (L'.map fun q => Value.ref q.1).Pairwise (fun x y => ltT h1 y x = false) := by rw [eL]; exact hs
      have h2' := List.pairwise_map.mp h1'
      have h3' := List.pairwise_map.mp nd'
      refine (h2'.and h3').imp_of_mem fun {q r} hq hr z => ?_
      have f1 : TS.intsOf h1 (.ref q.1) = q.2 := (tk q (pL.mem_iff.mp hq)).ints
      have f2 : TS.intsOf h1 (.ref r.1) = r.2 := (tk r (pL.mem_iff.mp hr)).ints
      have z1 : HT.lexLt (TS.intsOf h1 (.ref r.1)) (TS.intsOf h1 (.ref q.1)) = false := z.1
      rw [f1, f2] at z1
      rcases lex_tot q.2 r.2 with e | e | e
      · exact absurd e z.2
      · exact e
      · rw [e] at z1; cases z1
    refine wpAny_pure ⟨_, rfl, hQ _ s1.heap.objs.size out.toArray c L' (fun b u e => ?_) g1 o1 hz hc (by rw [← eL]) pL pw⟩
    have q := k1 b u e
    have hlt := Heap.lt_size q
    have hlt2 : b < h1.objs.size := Heap.lt_size (hk b u e)
    show (sortedHeap h1 s1.heap.objs.size vs out.toArray).get? b = some u
    rw [sortedHeap_old (Nat.ne_of_lt hlt) hlt2]
    exact hk b u e
end
structure Bg0 (P : Program) (w : World) (h : Heap) (a : Addr) (L : List (Addr × List Int)) : Prop where
  ex : ∃ (es : Array (Int × Value)) (ep : Nat) (t : SetTable), (∃ o, h.get? a = some o ∧ o.ExactSet ∧ o.data = .set es ep t) ∧ es.toList = rowsOf P w L ∧ TbOk t (L.map fun p => thash P w p.2) ∧ (L.map (·.2)).Nodup ∧ t.plain = true ∧
    (w.params.followText "set-order" = true ∨ t.led = true) ∧ L.length * 5 < t.mask * 3 ∧ L.length ≤ 1200
def BgO (P : Program) (w : World) (a : Addr) (L : List (Addr × List Int)) : HO := .ext fun h => Bg0 P w h a L
theorem BgT.bare {P : Program} {w : World} {h : Heap} {a : Addr} {L : List (Addr × List Int)} {es : Array (Int × Value)} {ep : Nat} {t : SetTable} (R : BgT P w h a L es ep t) : Bg0 P w h a L := ⟨es, ep, t, R.obj, R.its, R.tb, R.uq, R.pl, R.ld, R.rm, R.fw⟩
theorem Bg0.whole {P : Program} {w : World} {h : Heap} {a : Addr} {L : List (Addr × List Int)} (R : Bg0 P w h a L) (ht : ∀ p ∈ L, IsT P w h p.2 p.1) : ∃ es ep t, BgT P w h a L es ep t := by
  obtain ⟨es, ep, t, h1, h2, h3, h4, h5, h6, h7, h8⟩ := R.ex
  exact ⟨es, ep, t, h1, h2, h3, h4, ht, h5, h6, h7, h8⟩
theorem bgo_new {P : Program} {w : World} {H : Hp} {h : Heap} {a : Addr} {L : List (Addr × List Int)} (R : Bg0 P w h a L) : ObjOk P w H h a (BgO P w a L) := by
  have ⟨_, _, _, ⟨o, ho, _⟩, _⟩ := R
  refine ⟨R, ⟨o, ho⟩, fun h1 h2 p k => ?_⟩
  have ⟨es, ep, t, ⟨o, ho, r⟩, q⟩ := Bg0.ex p
  exact ⟨es, ep, t, ⟨o, k o ho, r⟩, q⟩
section
variable {X : Cx}
def rSetBg (K : PySem.W.Frag) (P : Program) (w : World) : List V → Hp → VK → Prop := fun xs H Q => ∃ (l : Addr) (ks : List (Addr × List Int)), xs = [V.ref l] ∧ SqL K H l (ks.map fun p => V.ref p.1) ∧ (∀ p ∈ ks, SqT K H p.1 (p.2.map V.int)) ∧ ks.length ≤ 1200 ∧
  ∀ a L, H a = none → (∀ p ∈ L, p ∈ ks) → (∀ p ∈ ks, p.2 ∈ L.map (·.2)) → Q (.ref a) (upd H a (BgO P w a L))
theorem cr_setBg (hc : X.calm = true) (hu : X.A.units + 64 < cLine) : CallR X (.type "set") (rSetBg X.K X.prog X.w) := by
  intro pins s σ H xs us Q I r h
  obtain ⟨l, ks, rfl, hl, hk, hf, q⟩ := h
  rw [Vals.ref1 r]
  obtain ⟨its, rv, pl, hz⟩ := I.list hl
  refine bg_set (P := X.prog) (w := X.w) ks (I.ok.hd hc) pl.isList (by simpa using refs_of_vals rv) (fun p hp => I.isT (hk p hp)) hf (by omega) fun h' tk L es ep t R g k => ?_
  exact ⟨.ref s.heap.objs.size, upd H s.heap.objs.size (BgO X.prog X.w s.heap.objs.size L), I.laid (t' := tk) k (Nat.le_refl _) (bgo_new R.bare), rfl, q _ L (I.hok.fresh (Nat.le_refl _)) (fun p hp => List.mem_of_mem_take (g.sub p hp)) fun p hp => g.all p (by rw [List.take_length]; exact hp)⟩
def rSortBg (W : Wd) : List V → Hp → VK → Prop := fun vs H Q => ∃ (a : Addr) (L : List (Addr × List Int)) (d : Nat), vs = [V.ref a] ∧ H a = some (BgO W.P W.w a L) ∧ (∀ p ∈ L, SqT W.K H p.1 (p.2.map V.int)) ∧ (∀ p ∈ L, p.2.length = d) ∧
  ∀ (L' : List (Addr × List Int)) (p : Addr), L'.Perm L → L'.Pairwise (fun q r => HT.lexLt q.2 r.2 = true) → H p = none → Q (.ref p) (upd H p (.lst (L'.map fun q => V.ref q.1)))
theorem cr_sortBg {X : Cx} (hc : X.calm = true) : CallR X (.builtin "sorted") (rSortBg (Cx.wd X)) := by
  intro pins s σ H vs us Q I r h
  obtain ⟨a, L, d, rfl, ha, hk, hd, q⟩ := h
  have R0 : Bg0 X.prog X.w s.heap a L := (I.hok a _ ha).1
  obtain ⟨es, ep, t, R⟩ := R0.whole fun p hp => I.isT (hk p hp)
  rw [Vals.ref1 r]
  refine sorted_bg R (I.ok.hd hc) hd fun s' p out c L' k g o hp hg hout pm pw => ?_
  have hl := R.fw
  have hlen : (L'.map fun q => V.ref q.1).length ≤ sizeLine := by rw [List.length_map, pm.length_eq, sizeLine_eq]; omega
  have hn : H p = none := I.hok.fresh hp
  have hv : Vals (L'.map fun q => V.ref q.1) out.toList := by rw [hout]; exact vals_of_refs L'
  obtain ⟨h', g', d', t', o'⟩ := s'
  have eo : o' = s.os := o
  subst eo
  have J := I.call (g' := g') (t' := t') (d' := d') (ch := []) (Un.laid (o := .lst (L'.map fun q => V.ref q.1)) k hp hn) (I.hok.laid k hp ⟨hlen, out.toList, c, hv, hg⟩) (by have : g' = s.gens := g; rw [this]; exact I.bare) (fun _ z => nomatch z)
  exact ⟨.ref p, _, J, rfl, q L' p pm pw hn⟩
variable {K : PySem.W.Frag} {P : Program} {w : World}
theorem k_sortG2 (e1 : X.prog = P) (e2 : X.w = w) (e3 : X.K = K) (hc : X.calm = true) : CallR X (.builtin "sorted") (rSortBg ⟨P, w, K⟩) := by subst e1 e2 e3; exact cr_sortBg hc
theorem k_setT2 (e1 : X.prog = P) (e2 : X.w = w) (e3 : X.K = K) (hc : X.calm = true) (hu : X.A.units + 64 < cLine) : CallR X (.type "set") (rSetBg K P w) := by subst e1 e2 e3; exact cr_setBg hc hu
end
section
variable {Z : Zn} {ρ : Ro} {M : Mu} {te : TE} {Q2 : DQ}
theorem we_sset2 {P : Program} {w : World} {K : PySem.W.Frag} (hW : Z.W = ⟨P, w, K⟩) (h : DL.WE Z te ρ M fun d M1 => ∃ (rows : List (List Int)) (n : Nat), LstOf M1 d (rows.map rowD) ∧ rows.length < 1000 ∧ (∀ r ∈ rows, r.length = n) ∧ Q2 (.lst ((sset rows).map rowD)) M1) :
    DL.WE Z (tCB (rSortBg ⟨P, w, K⟩) (tCons (tCB (rSetBg K P w) (tCons te tNil)) tNil)) ρ M Q2 := fun G σ H Q s R E r => by
  refine h G σ H _ s R E fun d v G1 M1 H1 s1 R1 x q => ?_
  obtain ⟨rows, n, l, hl, hn, q⟩ := q
  obtain ⟨a, xs, e1, e2, e3⟩ := lst_at R1 x l
  obtain ⟨ks, k1, k2, k3⟩ := rows_keys e3
  have kl : ks.length = rows.length := by rw [← k2, List.length_map]
  have hWK : Z.W.K = K := by rw [hW]
  have k3' : ∀ p ∈ ks, SqT K H1 p.1 (p.2.map V.int) := fun p hp => by rw [← hWK]; exact sqt_mono R1.ex (k3 p hp)
  subst e1
  refine ⟨a, ks, rfl, SqL.of (by rw [e2, k1]), k3', by omega, fun b L hb hL1 hL2 => ?_⟩
  have L3 : ∀ p ∈ L, SqT Z.W.K G1 p.1 (p.2.map V.int) := fun p hp => k3 p (hL1 p hp)
  refine ⟨b, L, n, rfl, upd_same, fun p hp => sqt_mono (same_new (o := BgO P w b L) hb) (k3' p (hL1 p hp)), fun p hp => hn _ (by rw [← k2]; exact List.mem_map_of_mem (hL1 p hp)), fun L' p pm pw hp => ?_⟩
  · have hp1 : H1 p = none := by
      by_cases e : p = b
      · rw [e, upd_same] at hp; cases hp
      · rw [upd_ne e] at hp; exact hp
    have R2 : Rep Z.W G1 M1 Z.F (upd H1 b (BgO P w b L)) := R1.skip hb
    have es : sset rows = L'.map (·.2) := rising_uniq (rising_sset rows) (List.pairwise_map.mpr pw) fun z => by
      rw [mem_sset, ← k2]
      constructor
      · intro hz
        obtain ⟨p', hp', e'⟩ := List.mem_map.mp hz
        have := hL2 p' hp'
        rw [e'] at this
        exact (pm.map (·.2)).mem_iff.mpr this
      · intro hz
        obtain ⟨p', hp', e'⟩ := List.mem_map.mp ((pm.map (·.2)).mem_iff.mp hz)
        rw [← e']
        exact List.mem_map_of_mem (hL1 p' hp')
    rw [es] at q
    have sn := same_new (o := .lst (L'.map fun q => V.ref q.1)) (R2.gnone hp)
    exact r _ _ _ M1 _ (s1.trans sn) (R2.new hp) (dat_lst.mpr ⟨p, _, rfl, upd_same, (keys_rows fun p' hp' => L3 p' (pm.mem_iff.mp hp')).mono sn⟩) q
end
end DL
set_option Elab.async false
set_option linter.all false
set_option maxRecDepth 100000
set_option maxHeartbeats 2000000
namespace DL
open PySem PySem.Spec PyProof.Rows L2
class KEq (a b : PySem.W.Frag) : Prop where
  eq : a = b
instance {a : PySem.W.Frag} : KEq a a := ⟨rfl⟩
class Stp (g : Prop) (s : outParam Prop) : Prop where
  go : s → g
theorem stp {g s : Prop} [i : Stp g s] (h : s) : g := i.go h
class Nrm (g : Prop) (ρ : outParam Ro) (f : outParam (Ro → Prop)) : Prop where
  go : f ρ → g
theorem nrm {g : Prop} {ρ l : Ro} {y : Option DV} {f : Ro → Prop} [i : Nrm g ρ f] (h : ρ = y :: l) (k : f (y :: l)) : g := i.go (by rw [h]; exact k)
section
variable {W : Wd} {Z : Zn} {G G' F : Hp} {ρ : Ro} {σ : L2.St} {M : Mu} {H : Hp} {te ta tb tc : TE} {tt tu : TT} {ts tr : TS} {tx : TA} {Q2 Q2' : DQ} {D2 : Ends2} {d e x y : DV} {ds es : List DV} {wi : TI} {g : TG} {sp2 : Sp2}
instance {i : Nat} {x : Option DV} : Nrm (DL.WS Z ts D2 (ρ.set i x) M) (ρ.set i x) (fun r => DL.WS Z ts D2 r M) := ⟨id⟩
instance {i : Nat} {x : Option DV} : Nrm (DL.WE Z te (ρ.set i x) M Q2) (ρ.set i x) (fun r => DL.WE Z te r M Q2) := ⟨id⟩
instance {i : Nat} {x : Option DV} {P : Bool → Mu → Prop} : Nrm (DL.WT Z tt (ρ.set i x) M P) (ρ.set i x) (fun r => DL.WT Z tt r M P) := ⟨id⟩
instance {i : Nat} {x : Option DV} {P : Ro → Mu → Prop} : Nrm (DL.WG Z g d (ρ.set i x) M P) (ρ.set i x) (fun r => DL.WG Z g d r M P) := ⟨id⟩
instance {i : Nat} {x : Option DV} {gs : TGs} {P : Ro → Mu → Prop} : Nrm (DL.WGs Z gs ds (ρ.set i x) M P) (ρ.set i x) (fun r => DL.WGs Z gs ds r M P) := ⟨id⟩
instance {is : List Nat} : Nrm (DL.WS Z ts D2 (wipe2 ρ is) M) (wipe2 ρ is) (fun r => DL.WS Z ts D2 r M) := ⟨id⟩
instance {is : List Nat} {P : Ro → Mu → Prop} : Nrm (DL.WG Z g d (wipe2 ρ is) M P) (wipe2 ρ is) (fun r => DL.WG Z g d r M P) := ⟨id⟩
instance {is : List Nat} {k : List DV → Mu → Prop} {items acc : List DV} : Nrm (Comp Z g tt te (wipe2 ρ is) k items acc M) (wipe2 ρ is) (fun r => Comp Z g tt te r k items acc M) := ⟨id⟩
end
section
variable {W : Wd} {Z : Zn} {G G' F : Hp} {ρ : Ro} {σ : L2.St} {M : Mu} {H : Hp} {te ta tb tc : TE} {tt tu : TT} {ts tr : TS} {tx : TA} {Q2 Q2' : DQ} {D2 : Ends2} {d e x y : DV} {ds es : List DV} {wi : TI} {g : TG} {sp2 : Sp2}
instance  : Stp (DL.WS Z (tSeq ts tr) D2 ρ M) (DL.WS Z ts { D2 with nx := fun ρ' M' => DL.WS Z tr D2 ρ' M' } ρ M) := ⟨ws_seq⟩
instance  : Stp (DL.WS Z (tRet te) D2 ρ M) (DL.WE Z te ρ M D2.rt) := ⟨ws_ret⟩
instance  : Stp (DL.WS Z (tDrop te) D2 ρ M) (DL.WE Z te ρ M fun _ M1 => D2.nx ρ M1) := ⟨ws_drop⟩
instance {g : TG} : Stp (DL.WS Z (tAsg te g) D2 ρ M) (DL.WE Z te ρ M fun d M1 => DL.WG Z g d ρ M1 D2.nx) := ⟨ws_asg⟩
instance {t : TSet} {P2 : Ro → Mu → Prop} : Stp (DL.WG Z (gSub ta tb t) d ρ M P2) (DL.WE Z ta ρ M fun o M1 => DL.WE Z tb ρ M1 fun i M2 => WSet Z t o i d M2 fun M3 => P2 ρ M3) := ⟨wg_sub⟩
instance  : Stp (DL.WS Z (tIfS tt ts tr) D2 ρ M) (DL.WT Z tt ρ M fun b M1 => if b = true then DL.WS Z ts D2 ρ M1 else DL.WS Z tr D2 ρ M1) := ⟨ws_if⟩
instance  : Stp (DL.WS Z tNext D2 ρ M) (D2.nx ρ M) := ⟨ws_next⟩
instance {P : Bool → Mu → Prop} : Stp (DL.WT Z (tTest te) ρ M P) (DL.WE Z te ρ M fun d M' => ∃ b, d = .b b ∧ P b M') := ⟨wt_test⟩
instance {P : Bool → Mu → Prop} : Stp (DL.WT Z (tB te) ρ M P) (DL.WE Z te ρ M fun d M' => ∃ b, d = .b b ∧ P b M') := ⟨wt_B⟩
instance {P : Bool → Mu → Prop} : Stp (DL.WT Z (tAnd tt tu) ρ M P) (DL.WT Z tt ρ M fun b M1 => if b = true then DL.WT Z tu ρ M1 P else P false M1) := ⟨wt_and⟩
instance {P : Bool → Mu → Prop} : Stp (DL.WT Z (tOr tt tu) ρ M P) (DL.WT Z tt ρ M fun b M1 => if b = true then P true M1 else DL.WT Z tu ρ M1 P) := ⟨wt_or⟩
instance {P : Bool → Mu → Prop} : Stp (DL.WT Z (tNot tt) ρ M P) (DL.WT Z tt ρ M fun b M1 => P (!b) M1) := ⟨wt_not⟩
instance {x : V} : Stp (DL.WE Z (tC x) ρ M Q2) (Q2 (.v x) M) := ⟨we_c⟩
instance {r : R2} : Stp (DL.WE Z (tOp r ta tb) ρ M Q2) (DL.WE Z ta ρ M fun x M1 => DL.WE Z tb ρ M1 fun y M2 => DL.WR Z r x y M2 Q2) := ⟨we_op⟩
instance {r : List V → Hp → VK → Prop} : Stp (DL.WE Z (tCB r tx) ρ M Q2) (DL.WA Z tx ρ M fun ds M1 => DL.WC Z r ds M1 Q2) := ⟨we_cb⟩
instance {r : V → Hp → VK → Prop} : Stp (DL.WE Z (tUn r ta) ρ M Q2) (DL.WE Z ta ρ M fun x M1 => DL.WU Z r x M1 Q2) := ⟨we_un⟩
instance  : Stp (DL.WE Z (tAndV ta tb) ρ M Q2) (DL.WE Z ta ρ M fun d M1 => ∃ c, d = .b c ∧ if c = true then DL.WE Z tb ρ M1 Q2 else Q2 (.b false) M1) := ⟨we_andV⟩
instance  : Stp (DL.WE Z (tOrV ta tb) ρ M Q2) (DL.WE Z ta ρ M fun d M1 => ∃ c, d = .b c ∧ if c = true then Q2 (.b true) M1 else DL.WE Z tb ρ M1 Q2) := ⟨we_orV⟩
instance  : Stp (DL.WE Z (tNotV ta) ρ M Q2) (DL.WE Z ta ρ M fun d M1 => ∃ c, d = .b c ∧ Q2 (.b (!c)) M1) := ⟨we_notV⟩
instance  : Stp (DL.WE Z (tIf tt ta tb) ρ M Q2) (DL.WT Z tt ρ M fun b M1 => if b = true then DL.WE Z ta ρ M1 Q2 else DL.WE Z tb ρ M1 Q2) := ⟨we_if⟩
instance  : Stp (DL.WE Z (tTup tx) ρ M Q2) (DL.WA Z tx ρ M fun ds M1 => ds.length ≤ sizeLine ∧ Q2 (.tup ds) M1) := ⟨we_tup⟩
instance {r r' : R2} : Stp (DL.WE Z (tChain r r' ta tb tc) ρ M Q2) (DL.WE Z ta ρ M fun x M1 => DL.WE Z tb ρ M1 fun y M2 => DL.WR Z r x y M2 fun z M3 => ∃ k, z = .b k ∧ if k = true then DL.WE Z tc ρ M3 fun w M4 => DL.WR Z r' y w M4 Q2 else Q2 (.b false) M3) := ⟨we_chain⟩
instance {P : List DV → Mu → Prop} : Stp (DL.WA Z (tCons te tx) ρ M P) (DL.WE Z te ρ M fun d M1 => DL.WA Z tx ρ M1 fun ds M2 => P (d :: ds) M2) := ⟨wa_cons⟩
instance {P : List DV → Mu → Prop} : Stp (DL.WA Z tNil ρ M P) (P [] M) := ⟨wa_nil⟩
instance {r : V → Option Int → Option Int → Hp → VK → Prop} {tl th : TO} : Stp (DL.WE Z (tSl r te tl th) ρ M Q2) (DL.WE Z te ρ M fun d M1 => DL.WO Z tl ρ M1 fun lo M2 => DL.WO Z th ρ M2 fun hi M3 => DL.WL Z r d lo hi M3 Q2) := ⟨we_sl⟩
instance {P : Option Int → Mu → Prop} : Stp (DL.WO Z tNoPart ρ M P) (P none M) := ⟨wo_none⟩
instance {P : Option Int → Mu → Prop} : Stp (DL.WO Z (tPart te) ρ M P) (DL.WE Z te ρ M fun d M1 => ∃ i, d = .i i ∧ P (some i) M1) := ⟨wo_some⟩
instance {g : Int → V} {i : Int} : Stp (DL.WU Z (rU g) (.i i) M Q2) (Q2 (.v (g i)) M) := ⟨wu_U⟩
instance  : Stp (DL.WE Z (tLst tx) ρ M Q2) (DL.WA Z tx ρ M fun ds M1 => ds.length ≤ sizeLine ∧ Q2 (.lst ds) M1) := ⟨we_lst⟩
instance  : Stp (DL.WE Z (tLstM tx) ρ M Q2) (DL.WA Z tx ρ M fun ds M1 => ds.length ≤ sizeLine ∧ ∀ p, M1 p = none → Q2 (.r p) (updM M1 p (.lst ds))) := ⟨we_lstMM⟩
instance  : Stp (DL.WE Z tDNewK ρ M Q2) (Q2 (.dk [] []) M) := ⟨we_dnewK⟩
instance {i j : Nat} {tx : TA} : Stp (DL.WS Z (tPar i j tx) D2 ρ M) (DL.WA Z tx ρ M fun ds M1 => ∃ d e, ds = [d, e] ∧ D2.nx ((ρ.set i (some d)).set j (some e)) M1) := ⟨ws_par⟩
instance {g : Int → Int → V} {i j : Int} : Stp (DL.WR Z (rI0 g) (.i i) (.i j) M Q2) (Q2 (.v (g i j)) M) := ⟨wr_I0⟩
instance {α : Type} {f : α → DV} {xs : List α} {K' : PySem.W.Frag} [kq : KEq Z.W.K K'] {k : Nat} : Stp (DL.WL Z (rSlA K') (.lst (xs.map f)) none (some (k : Int)) M Q2) (Q2 (.lst ((xs.take k).map f)) M) := ⟨fun h => by obtain ⟨rfl⟩ := kq; exact wl_toN h⟩
instance {α : Type} {f : α → DV} {xs : List α} {K' : PySem.W.Frag} [kq : KEq Z.W.K K'] {k : Nat} : Stp (DL.WL Z (rSlA K') (.lst (xs.map f)) (some (k : Int)) none M Q2) (Q2 (.lst ((xs.drop k).map f)) M) := ⟨fun h => by obtain ⟨rfl⟩ := kq; exact wl_fromN h⟩
instance {K' : PySem.W.Frag} [kq : KEq Z.W.K K'] {z : Str} {zs : List Str} : Stp (DL.WR Z (rInA K') (.s z) (.lst (zs.map DV.s)) M Q2) (Q2 (.b (decide (z ∈ zs))) M) := ⟨fun h => by obtain ⟨rfl⟩ := kq; exact wr_inSL h⟩
instance {K' : PySem.W.Frag} [kq : KEq Z.W.K K'] {z : Str} {zs : List Str} : Stp (DL.WR Z (rNiA K') (.s z) (.lst (zs.map DV.s)) M Q2) (Q2 (.b (!decide (z ∈ zs))) M) := ⟨fun h => by obtain ⟨rfl⟩ := kq; exact wr_niSL h⟩
instance {K' : PySem.W.Frag} [kq : KEq Z.W.K K'] {rows : List (List Int)} : Stp (DL.WR Z (rNeA K') (.lst (rows.map rowD)) (.lst (rows.map rowD)) M Q2) (Q2 (.b false) M) := ⟨fun h => by obtain ⟨rfl⟩ := kq; exact wr_neRows h⟩
instance {K' : PySem.W.Frag} [kq : KEq Z.W.K K'] {rows : List (List Int)} : Stp (DL.WR Z (rEqA K') (.lst (rows.map rowD)) (.lst (rows.map rowD)) M Q2) (Q2 (.b true) M) := ⟨fun h => by obtain ⟨rfl⟩ := kq; exact wr_eqRows h⟩
instance  : Stp (DL.WR Z rIsN x .n M Q2) (Q2 (.b (isNonD x)) M) := ⟨wr_isN⟩
instance  : Stp (DL.WR Z rNotN x .n M Q2) (Q2 (.b (!isNonD x)) M) := ⟨wr_notN⟩
instance {K' : PySem.W.Frag} [kq : KEq Z.W.K K']  : Stp (DL.WR Z (rIx K') (.lst (e :: ds)) (.i 0) M Q2) (Q2 e M) := ⟨fun h => by obtain ⟨rfl⟩ := kq; exact wr_aL0 h⟩
instance {K' : PySem.W.Frag} [kq : KEq Z.W.K K'] {a0 : DV} : Stp (DL.WR Z (rIx K') (.lst (a0 :: e :: ds)) (.i 1) M Q2) (Q2 e M) := ⟨fun h => by obtain ⟨rfl⟩ := kq; exact wr_aL1 h⟩
instance {K' : PySem.W.Frag} [kq : KEq Z.W.K K'] {a0 a1 : DV} : Stp (DL.WR Z (rIx K') (.lst (a0 :: a1 :: e :: ds)) (.i 2) M Q2) (Q2 e M) := ⟨fun h => by obtain ⟨rfl⟩ := kq; exact wr_aL2 h⟩
instance {K' : PySem.W.Frag} [kq : KEq Z.W.K K'] {a0 a1 a2 : DV} : Stp (DL.WR Z (rIx K') (.lst (a0 :: a1 :: a2 :: e :: ds)) (.i 3) M Q2) (Q2 e M) := ⟨fun h => by obtain ⟨rfl⟩ := kq; exact wr_aL3 h⟩
instance {K' : PySem.W.Frag} [kq : KEq Z.W.K K'] {a0 a1 a2 a3 : DV} : Stp (DL.WR Z (rIx K') (.lst (a0 :: a1 :: a2 :: a3 :: e :: ds)) (.i 4) M Q2) (Q2 e M) := ⟨fun h => by obtain ⟨rfl⟩ := kq; exact wr_aL4 h⟩
instance {K' : PySem.W.Frag} [kq : KEq Z.W.K K'] {a0 a1 a2 a3 a4 : DV} : Stp (DL.WR Z (rIx K') (.lst (a0 :: a1 :: a2 :: a3 :: a4 :: e :: ds)) (.i 5) M Q2) (Q2 e M) := ⟨fun h => by obtain ⟨rfl⟩ := kq; exact wr_aL5 h⟩
instance {K' : PySem.W.Frag} [kq : KEq Z.W.K K']  : Stp (DL.WR Z (rIx K') (.tup (e :: ds)) (.i 0) M Q2) (Q2 e M) := ⟨fun h => by obtain ⟨rfl⟩ := kq; exact wr_aT0 h⟩
instance {K' : PySem.W.Frag} [kq : KEq Z.W.K K'] {a0 : DV} : Stp (DL.WR Z (rIx K') (.tup (a0 :: e :: ds)) (.i 1) M Q2) (Q2 e M) := ⟨fun h => by obtain ⟨rfl⟩ := kq; exact wr_aT1 h⟩
instance {K' : PySem.W.Frag} [kq : KEq Z.W.K K'] {a0 a1 : DV} : Stp (DL.WR Z (rIx K') (.tup (a0 :: a1 :: e :: ds)) (.i 2) M Q2) (Q2 e M) := ⟨fun h => by obtain ⟨rfl⟩ := kq; exact wr_aT2 h⟩
instance {K' : PySem.W.Frag} [kq : KEq Z.W.K K'] {a0 a1 a2 : DV} : Stp (DL.WR Z (rIx K') (.tup (a0 :: a1 :: a2 :: e :: ds)) (.i 3) M Q2) (Q2 e M) := ⟨fun h => by obtain ⟨rfl⟩ := kq; exact wr_aT3 h⟩
instance {K' : PySem.W.Frag} [kq : KEq Z.W.K K'] {a0 a1 a2 a3 : DV} : Stp (DL.WR Z (rIx K') (.tup (a0 :: a1 :: a2 :: a3 :: e :: ds)) (.i 4) M Q2) (Q2 e M) := ⟨fun h => by obtain ⟨rfl⟩ := kq; exact wr_aT4 h⟩
instance {K' : PySem.W.Frag} [kq : KEq Z.W.K K'] {a0 a1 a2 a3 a4 : DV} : Stp (DL.WR Z (rIx K') (.tup (a0 :: a1 :: a2 :: a3 :: a4 :: e :: ds)) (.i 5) M Q2) (Q2 e M) := ⟨fun h => by obtain ⟨rfl⟩ := kq; exact wr_aT5 h⟩
instance {K' : PySem.W.Frag} [kq : KEq Z.W.K K'] {q : Addr} : Stp (DL.WR Z (rIx K') (.r q) (.i 0) (updM M q (.lst (e :: ds))) Q2) (Q2 e (updM M q (.lst (e :: ds)))) := ⟨fun h => by obtain ⟨rfl⟩ := kq; exact wr_aR0 h⟩
instance {K' : PySem.W.Frag} [kq : KEq Z.W.K K'] {a0 : DV} {q : Addr} : Stp (DL.WR Z (rIx K') (.r q) (.i 1) (updM M q (.lst (a0 :: e :: ds))) Q2) (Q2 e (updM M q (.lst (a0 :: e :: ds)))) := ⟨fun h => by obtain ⟨rfl⟩ := kq; exact wr_aR1 h⟩
instance {K' : PySem.W.Frag} [kq : KEq Z.W.K K'] {a0 a1 : DV} {q : Addr} : Stp (DL.WR Z (rIx K') (.r q) (.i 2) (updM M q (.lst (a0 :: a1 :: e :: ds))) Q2) (Q2 e (updM M q (.lst (a0 :: a1 :: e :: ds)))) := ⟨fun h => by obtain ⟨rfl⟩ := kq; exact wr_aR2 h⟩
instance {K' : PySem.W.Frag} [kq : KEq Z.W.K K'] {a0 a1 a2 : DV} {q : Addr} : Stp (DL.WR Z (rIx K') (.r q) (.i 3) (updM M q (.lst (a0 :: a1 :: a2 :: e :: ds))) Q2) (Q2 e (updM M q (.lst (a0 :: a1 :: a2 :: e :: ds)))) := ⟨fun h => by obtain ⟨rfl⟩ := kq; exact wr_aR3 h⟩
instance {K' : PySem.W.Frag} [kq : KEq Z.W.K K'] {a0 a1 a2 a3 : DV} {q : Addr} : Stp (DL.WR Z (rIx K') (.r q) (.i 4) (updM M q (.lst (a0 :: a1 :: a2 :: a3 :: e :: ds))) Q2) (Q2 e (updM M q (.lst (a0 :: a1 :: a2 :: a3 :: e :: ds)))) := ⟨fun h => by obtain ⟨rfl⟩ := kq; exact wr_aR4 h⟩
instance {K' : PySem.W.Frag} [kq : KEq Z.W.K K'] {a0 a1 a2 a3 a4 : DV} {q : Addr} : Stp (DL.WR Z (rIx K') (.r q) (.i 5) (updM M q (.lst (a0 :: a1 :: a2 :: a3 :: a4 :: e :: ds))) Q2) (Q2 e (updM M q (.lst (a0 :: a1 :: a2 :: a3 :: a4 :: e :: ds)))) := ⟨fun h => by obtain ⟨rfl⟩ := kq; exact wr_aR5 h⟩
instance {K' : PySem.W.Frag} [kq : KEq Z.W.K K']  : Stp (DL.WC Z (orC (rLenQ K') rLenT) [.lst ds] M Q2) (Q2 (.i (ds.length : Nat)) M) := ⟨fun h => by obtain ⟨rfl⟩ := kq; exact wc_lenL h⟩
instance {K' : PySem.W.Frag} [kq : KEq Z.W.K K']  : Stp (DL.WC Z (orC (rLenQ K') rLenT) [.tup ds] M Q2) (Q2 (.i (ds.length : Nat)) M) := ⟨fun h => by obtain ⟨rfl⟩ := kq; exact wc_lenU h⟩
instance {K' : PySem.W.Frag} [kq : KEq Z.W.K K'] {q : Addr} : Stp (DL.WC Z (orC (rLenQ K') rLenT) [.r q] (updM M q (.lst ds)) Q2) (Q2 (.i (ds.length : Nat)) (updM M q (.lst ds))) := ⟨fun h => by obtain ⟨rfl⟩ := kq; exact wc_lenR h⟩
instance {K' : PySem.W.Frag} [kq : KEq Z.W.K K']  : Stp (DL.WC Z (rListQ K') [.lst ds] M Q2) (Q2 (.lst ds) M) := ⟨fun h => by obtain ⟨rfl⟩ := kq; exact wc_listL h⟩
instance {K' : PySem.W.Frag} [kq : KEq Z.W.K K']  : Stp (DL.WC Z (rListQ K') [.tup ds] M Q2) (Q2 (.lst ds) M) := ⟨fun h => by obtain ⟨rfl⟩ := kq; exact wc_listU h⟩
instance {K' : PySem.W.Frag} [kq : KEq Z.W.K K'] {q : Addr} : Stp (DL.WC Z (rListQ K') [.r q] (updM M q (.lst ds)) Q2) (Q2 (.lst ds) (updM M q (.lst ds))) := ⟨fun h => by obtain ⟨rfl⟩ := kq; exact wc_listR h⟩
instance {K' : PySem.W.Frag} [kq : KEq Z.W.K K']  : Stp (DL.WC Z (rListQM K') [.lst ds] M Q2) (∀ p, M p = none → Q2 (.r p) (updM M p (.lst ds))) := ⟨fun h => by obtain ⟨rfl⟩ := kq; exact wc_listML h⟩
instance {K' : PySem.W.Frag} [kq : KEq Z.W.K K']  : Stp (DL.WC Z (rTupQ K') [.lst ds] M Q2) (Q2 (.tup ds) M) := ⟨fun h => by obtain ⟨rfl⟩ := kq; exact wc_tupL h⟩
instance {K' : PySem.W.Frag} [kq : KEq Z.W.K K']  : Stp (DL.WC Z (rTupQ K') [.tup ds] M Q2) (Q2 (.tup ds) M) := ⟨fun h => by obtain ⟨rfl⟩ := kq; exact wc_tupU h⟩
instance {K' : PySem.W.Frag} [kq : KEq Z.W.K K'] {q : Addr} : Stp (DL.WC Z (rTupQ K') [.r q] (updM M q (.lst ds)) Q2) (Q2 (.tup ds) (updM M q (.lst ds))) := ⟨fun h => by obtain ⟨rfl⟩ := kq; exact wc_tupR h⟩
instance {k : Bool} : Stp (DL.WC Z rInt1 [.b k] M Q2) (Q2 (.i (if k then 1 else 0)) M) := ⟨wc_intB⟩
instance {k : Int} : Stp (DL.WC Z rInt1 [.i k] M Q2) (Q2 (.i k) M) := ⟨wc_intI⟩
instance {i : Nat} {d : DV} {P2 : Ro → Mu → Prop} : Stp (DL.WG Z (gName i) d ρ M P2) (P2 (ρ.set i (some d)) M) := ⟨wg_name⟩
instance {g : TG} {gs : TGs} {d : DV} {ds : List DV} {P2 : Ro → Mu → Prop} : Stp (DL.WGs Z (gCons g gs) (d :: ds) ρ M P2) (DL.WG Z g d ρ M fun ρ1 M1 => DL.WGs Z gs ds ρ1 M1 P2) := ⟨wgs_cons⟩
instance {P2 : Ro → Mu → Prop} : Stp (DL.WGs Z gNil [] ρ M P2) (P2 ρ M) := ⟨wgs_nil⟩
instance  : Stp (DL.WS Z (tFor wi g ts) D2 ρ M) (DL.WI Z wi ρ M fun items M1 => Loop Z g ts D2 items ρ M1) := ⟨ws_for⟩
instance {R2 : List DV → Mu → Prop} : Stp (DL.WI Z (iRng1 tx) ρ M R2) (DL.WA Z tx ρ M fun ds M1 => ∃ j : Int, ds = [.i j] ∧ -(2 ^ 62) ≤ j ∧ j < 2 ^ 62 ∧ R2 (rangeD 0 j.toNat) M1) := ⟨wi_rangeI⟩
instance {K' : PySem.W.Frag} [kq : KEq Z.W.K K'] {R2 : List DV → Mu → Prop} : Stp (DL.WI Z (iList K' te) ρ M R2) (DL.WE Z te ρ M fun d M1 => ∃ ds, d = .lst ds ∧ R2 ds M1) := ⟨fun h => by obtain ⟨rfl⟩ := kq; exact wi_list h⟩
instance {K' : PySem.W.Frag} [kq : KEq Z.W.K K'] {tl : TE} {R2 : List DV → Mu → Prop} : Stp (DL.WI Z (iSeq K' tl) ρ M R2) (DL.WE Z tl ρ M fun d M1 => ∃ ds, (d = .lst ds ∨ d = .tup ds) ∧ R2 ds M1) := ⟨fun h => by obtain ⟨rfl⟩ := kq; exact wi_seq h⟩
instance {K' : PySem.W.Frag} [kq : KEq Z.W.K K'] {R2 : List DV → Mu → Prop} : Stp (DL.WI Z (iEnum K' tx) ρ M R2) (DL.WA Z tx ρ M fun ds M1 => ∃ es, ds = [.lst es] ∧ R2 (enumD es) M1) := ⟨fun h => by obtain ⟨rfl⟩ := kq; exact wi_enum h⟩
instance {K' : PySem.W.Frag} [kq : KEq Z.W.K K'] {T : String} {r : V → List V → Hp → VK → Prop} : Stp (DL.WE Z (tBM K' T r te tx) ρ M Q2) (DL.WE Z te ρ M fun d M1 => TyOk Z.W T M1 d ∧ DL.WA Z tx ρ M1 fun ds M2 => DL.WM Z r d ds M2 Q2) := ⟨fun h => by obtain ⟨rfl⟩ := kq; exact we_bm h⟩
instance {K' : PySem.W.Frag} [kq : KEq Z.W.K K'] {T : String} {r : V → List V → Hp → VK → Prop} : Stp (DL.WE Z (tBM0 K' T r te) ρ M Q2) (DL.WE Z te ρ M fun d M1 => TyOk Z.W T M1 d ∧ DL.WM Z r d [] M1 Q2) := ⟨fun h => by obtain ⟨rfl⟩ := kq; exact we_bm0 h⟩
instance {K' : PySem.W.Frag} [kq : KEq Z.W.K K'] {f : Str} : Stp (DL.WE Z (tFld K' te f) ρ M Q2) (DL.WE Z te ρ M fun d M1 => ∃ C ns ds e, ObjOf M1 d C ns ds ∧ Cls K' C ∧ NoAttr K' C f ∧ (ns.zip ds).lookup f = some e ∧ Q2 e M1) := ⟨fun h => by obtain ⟨rfl⟩ := kq; exact we_fld h⟩
instance {K' : PySem.W.Frag} [kq : KEq Z.W.K K'] {f : Str} : Stp (DL.WS Z (sFld K' ta tb f) D2 ρ M) (DL.WE Z tb ρ M fun e M1 => DL.WE Z ta ρ M1 fun d M2 => ∃ a C ns ds, d = .r a ∧ M2 a = some (.ins C ns ds) ∧ Cls K' C ∧ NoAttr K' C f ∧ ns.length < 1000 ∧ D2.nx ρ (updM M2 a (.ins C (putN f ns) (putD f e ns ds)))) := ⟨fun h => by obtain ⟨rfl⟩ := kq; exact ws_fld h⟩
instance {i : Nat} : Stp (DL.WS Z (tAsg te (gName i)) D2 ρ M) (DL.WE Z te ρ M fun d M1 => D2.nx (ρ.set i (some d)) M1) := ⟨ws_set⟩
instance {K' : PySem.W.Frag} [kq : KEq Z.W.K K']  : Stp (DL.WS Z (tFor (iEnumM K' tx) g ts) D2 ρ M) (DL.WA Z tx ρ M fun ds M1 => ∃ d es, ds = [d] ∧ LstOf M1 d es ∧ LoopM Z g ts D2 (fun M => LstOf M d es) (enumD es) ρ M1) := ⟨fun h => by obtain ⟨rfl⟩ := kq; exact ws_forME h⟩
instance {K' : PySem.W.Frag} [kq : KEq Z.W.K K']  : Stp (DL.WS Z (tFor (iListM K' te) g ts) D2 ρ M) (DL.WE Z te ρ M fun d M1 => ∃ ds, LstOf M1 d ds ∧ LoopM Z g ts D2 (fun M => LstOf M d ds) ds ρ M1) := ⟨fun h => by obtain ⟨rfl⟩ := kq; exact ws_forML h⟩
instance {α : Type} {f : α → DV} {xs : List α} {K' : PySem.W.Frag} [kq : KEq Z.W.K K']  : Stp (DL.WC Z (orC (rLenQ K') rLenT) [.lst (xs.map f)] M Q2) (Q2 (.i (xs.length : Nat)) M) := ⟨fun h => by obtain ⟨rfl⟩ := kq; exact wc_lenLM h⟩
instance {α : Type} {f : α → DV} {xs : List α} {K' : PySem.W.Frag} [kq : KEq Z.W.K K']  : Stp (DL.WC Z (orC (rLenQ K') rLenT) [.tup (xs.map f)] M Q2) (Q2 (.i (xs.length : Nat)) M) := ⟨fun h => by obtain ⟨rfl⟩ := kq; exact wc_lenUM h⟩
instance {α : Type} {f : α → DV} {xs : List α} {K' : PySem.W.Frag} [kq : KEq Z.W.K K'] {q : Addr} : Stp (DL.WC Z (orC (rLenQ K') rLenT) [.r q] (updM M q (.lst (xs.map f))) Q2) (Q2 (.i (xs.length : Nat)) (updM M q (.lst (xs.map f)))) := ⟨fun h => by obtain ⟨rfl⟩ := kq; exact wc_lenRM h⟩
instance {K' : PySem.W.Frag} [kq : KEq Z.W.K K'] {i j : Int} : Stp (DL.WR Z (rAddA K') (.i i) (.i j) M Q2) (Q2 (.i (i + j)) M) := ⟨fun h => by obtain ⟨rfl⟩ := kq; exact wr_addI h⟩
instance {P : Program} {w : World} {K : PySem.W.Frag} {G F : Hp} : Stp (DL.WE (Z_ P w K G F) (tCB (rSortG ⟨P, w, K⟩) (tCons (tCB (rSetOfT K P w) (tCons te tNil)) tNil)) ρ M Q2) (DL.WE (Z_ P w K G F) te ρ M fun d M1 => ∃ (rows : List (List Int)) (n : Nat), LstOf M1 d (rows.map rowD) ∧ rows.length < 64 ∧ (∀ r ∈ rows, r.length = n) ∧ Q2 (.lst ((sset rows).map rowD)) M1) := ⟨we_sset rfl⟩
instance {P : Program} {w : World} {K : PySem.W.Frag} {G F : Hp} : Stp (DL.WE (Z_ P w K G F) (tCB (rSortBg ⟨P, w, K⟩) (tCons (tCB (rSetBg K P w) (tCons te tNil)) tNil)) ρ M Q2) (DL.WE (Z_ P w K G F) te ρ M fun d M1 => ∃ (rows : List (List Int)) (n : Nat), LstOf M1 d (rows.map rowD) ∧ rows.length < 1000 ∧ (∀ r ∈ rows, r.length = n) ∧ Q2 (.lst ((sset rows).map rowD)) M1) := ⟨we_sset2 rfl⟩
end
end DL
set_option Elab.async false
set_option linter.all false
set_option maxRecDepth 100000
set_option maxHeartbeats 2000000
namespace DL
open PySem PySem.Spec PyProof.Rows L2
section
open PySem.SeqAt MeetsSeq MeetsSeq2 MeetsSeq3 SeqRoads2
open AutoSeq1 (wpAny_loadPart')
variable {pr : Program} {w : World} {A : Around} {R : Result → Shared → Prop}
theorem neL_loop (p q : Addr) (m : Nat) (J : Nat → Shared → Prop) (hl : GQ.ListI pr w A (fun e s' => R (.error e) s') p q m J)
    (fin : ∀ s, J m s → R (.ok (.ret (.bool false))) s) (c : Nat) : ∀ j : Nat, m - j = c → j ≤ m → ∀ s, J j s →
      wpAny (model pr w) A.in1 (Builtin.«list.__eq__.loop» ⟨[.ref p, .ref q, rawInt j, rawInt 3], []⟩) (GQ.FinOf pr w A R) (fun e s' => R (.error e) s') s := by
  induction c with
  | zero =>
    intro j hj jm s h
    obtain ⟨us, vs, n, n2, g1, g2, z1, z2, _⟩ := hl _ _ h
    have ej : j = m := by omega
    have hR := fin s (ej ▸ h)
    obtain ⟨hp, g, d, tk, os⟩ := s
    wp_walk using wpAny_loadPart' g1, wpAny_loadPart' g2
    have o1 : us[((j : Nat) : Int).toNat]? = none := by simp; omega
    have o2 : vs[((j : Nat) : Int).toNat]? = none := by simp; omega
    rw [o1, o2]
    wp_walk using wpAny_loadPart' g1, wpAny_loadPart' g2
    show R (.ok (.ret (.bool (us.size != vs.size)))) _
    rw [z1, z2]
    simpa using hR
  | succ c ih =>
    intro j hj jm s h
    obtain ⟨us, vs, n, n2, g1, g2, z1, z2, turn⟩ := hl _ _ h
    have l1 : j < us.size := by omega
    have l2 : j < vs.size := by omega
    have ht := turn l1 l2
    obtain ⟨hp, g, d, tk, os⟩ := s
    wp_walk using wpAny_loadPart' g1, wpAny_loadPart' g2
    have o1 : us[((j : Nat) : Int).toNat]? = some us[j] := by simp [l1]
    have o2 : vs[((j : Nat) : Int).toNat]? = some vs[j] := by simp [l2]
    have hc : ((j : Int) + 1) = ((j + 1 : Nat) : Int) := by omega
    rw [o1, o2]
    refine wpAny_bind (wpAny_mono ht (fun r s2 h2 => ?_) fun _ _ x => x)
    obtain ⟨hr, h2⟩ := h2
    subst hr
    have again := ih (j + 1) (by omega) (by omega) s2 h2
    obtain ⟨hp2, g2', d2, tk2, os2⟩ := s2
    wp_walk
    rw [hc]
    refine ⟨plainId_quiet plain_eq_loop _, codeAny_builtin entry_eq_loop ?_⟩
    rw [Around.under_plainId plain_eq_loop _]
    exact again
theorem neL_list (p q : Addr) (m : Nat) (J : Nat → Shared → Prop) (hl : GQ.ListI pr w A (fun e s' => R (.error e) s') p q m J)
    (fin : ∀ s, J m s → R (.ok (.ret (.bool false))) s) {s : Shared} (h : J 0 s) :
    wpAny (model pr w) A.in1 (Builtin.«list.__ne__» ⟨[.ref p, .ref q], []⟩) (GQ.FinOf pr w A R) (fun e s' => R (.error e) s') s := by
  obtain ⟨us, vs, n, n2, g1, g2, z1, z2, _⟩ := hl _ _ h
  have again := neL_loop (A := A) (R := R) p q m J hl fin _ 0 rfl (Nat.zero_le _) s h
  obtain ⟨hp, g, d, tk, os⟩ := s
  have sub := AutoSeq1.sub_list_list
  have hne : ¬ (us.size != vs.size) = true := by simp [z1, z2]
  wp_walk using wpAny_loadPart' g1, wpAny_loadPart' g2
  refine ⟨plainId_quiet plain_eq_loop _, codeAny_builtin entry_eq_loop ?_⟩
  rw [Around.under_plainId plain_eq_loop _]
  exact again
theorem neL_rc {E : Value → Shared → Prop} {p q : Addr} {m : Nat} {Q : Value → Shared → Prop} (hu : A.units < cLine) (J : Nat → Shared → Prop) (hl : GQ.ListI pr w A E p q m J)
    (fin : ∀ s, J m s → Q (.bool false) s) {s : Shared} (h : J 0 s) : wpAny (model pr w) A (richCompare .NotEq (.ref p) (.ref q)) Q E s := by
  obtain ⟨us, vs, n, n2, g1, g2, _, _, _⟩ := hl _ _ h
  refine wpAny_richCompare_same_room (op := .NotEq) ⟨_, g1, rfl⟩ ⟨_, g2, rfl⟩ F.slot_list_ne (GQ.call_here F.slot_list_ne ⟨_, g1, rfl⟩ F.entry_list_ne (F.args_list_ne_2 _ _) ?_) hu
  exact neL_list (R := wants (fun v s' => v ≠ .notImplemented ∧ Q v s') E) p q m J hl (fun s' z => ⟨(fun x => nomatch x), fin s' z⟩) h
end
def RnG (X : Cx) (n : Nat) (D : Eqv) : Prop := ∀ (A : Around) pins (s : Shared) (σ : L2.St) (H : Hp) (x y : V) (u v : Value), L2.Sub X n A → L2.Inv X pins σ H s → L2.RelV x u → L2.RelV y v → D x y H →
  wpAny (model X.prog X.w) A (richCompare .NotEq u v) (fun r s' => r = .bool false ∧ LoopI X pins σ H s') X.xe s
theorem rnG_list {X : Cx} {n : Nat} {D : Eqv} (hD : Mon D) (h : EqG X n D) : RnG X (n + 1) (DList D) := by
  intro A pins s σ H x y u v sb I rx ry d
  obtain ⟨a, b, xs, ys, rfl, rfl, ha, hb, p⟩ := d
  cases rx
  cases ry
  refine neL_rc (m := xs.length) sb.room.units0 (fun _ s' => LoopI X pins σ H s') (fun i s' q => ?_) (fun s' q => ⟨rfl, q⟩) ⟨H, I, Ext.rfl'⟩
  obtain ⟨H1, I1, e1⟩ := id q
  obtain ⟨z, its, k, r, e⟩ := I1.hok a _ (e1 _ _ ha)
  obtain ⟨z2, its2, k2, r2, e2⟩ := I1.hok b _ (e1 _ _ hb)
  exact ⟨its.toArray, its2.toArray, k, k2, e, e2, by rw [List.size_toArray, ← r.length], by rw [List.size_toArray, ← r2.length, ← p.1], fun h1 h2 => turnG hD h sb p r r2 i h1 h2 s' q⟩
def rNeG (D : Eqv) : R2 := fun x y H Q => D x y H ∧ ∀ H', Ext H H' → Q (.bl false) H'
theorem op_neLG {X : Cx} {n : Nat} {D : Eqv} (h : RnG X n D) (hr : Room n X.A) : OpR X (compareOp .NotEq) (rNeG D) := by
  intro pins s σ H x y v u Q I rx ry hq
  obtain ⟨d, q⟩ := hq
  show wpAny (model X.prog X.w) X.A (richCompare .NotEq v u) (EP X pins σ Q) X.xe s
  refine wpAny_mono (h X.A pins s σ H x y v u ⟨hr, rfl⟩ I rx ry d) (fun r s' z => ?_) fun _ _ x => x
  obtain ⟨hr', H', I', e⟩ := z
  subst hr'
  exact ⟨.bl false, H', I', rfl, q H' e⟩
theorem op_lstNeOwn {X : Cx} {K : PySem.W.Frag} {CX : CXT} {k : Nat} {f C : Addr} {fd : FuncData} {ps : List Str} {sp2 : Sp2} {E : XK} {W : Wd} (eK : X.K = K) (F : FnOk X.prog X.w X.K X.mg X.base CX k f fd ps (lift W sp2)) (T : EqC X.K C f) (hr : Room (k + 1) X.A) (hb : Binds X.K fd ps []) (hx : Passes CX X E) :
    OpR X (compareOp .NotEq) (rNeG (DList (DOwn W C sp2))) := by
  have hm : Mon (DOwn W C sp2) := fun x y H H' e d => d.elim (fun d => .inl (mon_flat x y H H' e d)) fun d => .inr (mon_ins rown_mon x y H H' e d)
  exact op_neLG (n := k + 1) (rnG_list hm (EqG.or (eqG_flat.mono (Nat.zero_le _)) (eqG_ins (F.imp spEq_of) T.heq T.hf hb hx))) hr
theorem wr_lstNeOwn {Z : Zn} {M : Mu} {Q2 : DQ} {C : Addr} {sp2 : Sp2} {x y : DV} {ds es : List DV} (lx : LstOf M x ds) (ly : LstOf M y es) (h : OwnP C sp2 ds es) (q : Q2 (.b false) M) : WR Z (rNeG (DList (DOwn Z.W C sp2))) x y M Q2 := fun G H vx vy Q s R dx dy r => by
  obtain ⟨a, xs, rfl, ha, h1⟩ := lst_at R dx lx
  obtain ⟨b, ys, rfl, hb, h2⟩ := lst_at R dy ly
  exact ⟨⟨a, b, xs, ys, rfl, rfl, ha, hb, own_prs R.ex h h1 h2⟩, fun H' e => r _ _ G M H' (Same.refl G) (R.grow e) dat_v' q⟩
theorem OwnP.map {α : Type} {C : Addr} {sp2 : Sp2} {f g : α → DV} : ∀ {l : List α}, (∀ x ∈ l, OwnI C sp2 (f x) (g x)) → OwnP C sp2 (l.map f) (l.map g)
  | [], _ => trivial
  | _ :: _, h => ⟨h _ List.mem_cons_self, OwnP.map fun x hx => h x (List.mem_cons_of_mem _ hx)⟩
section
variable {Z : Zn} {ρ : Ro} {ts : TS} {D2 : Ends2} {g : TG} {Kp : Mu → Prop}
/-- a for over a list that may change elsewhere, with slots that change -/
theorem loop_VM {β : Type} {tr : TS} (is : List Nat) (R : β → Ro) (S : Nat → β → Mu) (I : Nat → β → Prop) (c : Nat) {n : Nat} {b0 : β} {items : List DV} (kp : ∀ m b, Kp (S m b)) (hI : I 0 b0) (h0 : wipe2 ρ is = R b0)
    (hs : ∀ i d m b, items[i]? = some d → m ≤ n + c * i → I i b → WG Z g d (R b) (S m b) fun ρ1 M1 => WS Z ts { nx := fun ρ2 M2 => ∃ m' b', wipe2 ρ2 is = R b' ∧ m' ≤ m + c ∧ I (i + 1) b' ∧ M2 = S m' b', rt := D2.rt, bk := fun ρ2 M2 => WS Z tr D2 ρ2 M2, ct := fun ρ2 M2 => ∃ m' b', wipe2 ρ2 is = R b' ∧ m' ≤ m + c ∧ I (i + 1) b' ∧ M2 = S m' b' } ρ1 M1)
    (hk : ∀ m b, m ≤ n + c * items.length → I items.length b → WS Z tr D2 (R b) (S m b)) : LoopM Z g ts { nx := fun ρ' M' => WS Z tr D2 ρ' M', rt := D2.rt, bk := D2.bk, ct := D2.ct } Kp items ρ (S n b0) := by
  refine loop_wordM (fun j ρ2 M2 => ∃ m b, wipe2 ρ2 is = R b ∧ m ≤ n + c * j ∧ I j b ∧ M2 = S m b) (fun j ρ2 M2 h => by obtain ⟨m, b, _, _, _, rfl⟩ := h; exact kp m b) items 0 ρ _ ⟨n, b0, h0, by omega, hI, rfl⟩ (fun i d ρ2 M2 hi h => ?_) fun ρ2 M2 h => ?_
  · rw [Nat.zero_add] at h ⊢
    obtain ⟨m, b, h1, h2, h3, rfl⟩ := h
    refine wg_env is ?_
    rw [h1]
    have key : ∀ ρ2 M2, (∃ m' b', wipe2 ρ2 is = R b' ∧ m' ≤ m + c ∧ I (i + 1) b' ∧ M2 = S m' b') → (∃ m b, wipe2 ρ2 is = R b ∧ m ≤ n + c * (i + 1) ∧ I (i + 1) b ∧ M2 = S m b) :=
      fun ρ2 M2 ⟨m', b', g1, g2, g3, g4⟩ => ⟨m', b', g1, by rw [Nat.mul_add]; omega, g3, g4⟩
    exact (hs i d m b hi h2 h3).imp fun ρ1 M1 q => q.imp key (fun _ _ h => h) (fun _ _ h => h) key
  · rw [Nat.zero_add] at h
    obtain ⟨m, b, h1, h2, h3, rfl⟩ := h
    refine ws_env is ?_
    rw [h1]
    exact hk m b h2 h3
end
end DL
set_option Elab.async false
set_option linter.all false
set_option maxRecDepth 100000
set_option maxHeartbeats 4000000
namespace Law
open PySem PySem.Spec PyProof.Rows L2 DL
def top (i : Nat) : Stmt := PySem.Challenge.pw_foldbough_k05_all_rows_that_go_together.main.body.getD i (.Pass ⟨0, 0, 0, 0⟩)
abbrev s_is_name : Stmt := top 10
abbrev s_is_value : Stmt := top 11
abbrev s_is_row : Stmt := top 12
abbrev s_want_row : Stmt := top 13
abbrev s_are_columns : Stmt := top 14
abbrev s_goes_with : Stmt := top 16
abbrev s_joined : Stmt := top 17
abbrev s__law_well : Stmt := top 19
abbrev s__law_draw : Stmt := top 20
abbrev s__law_names : Stmt := top 21
abbrev s__law_base : Stmt := top 22
abbrev s__law_picked : Stmt := top 23
abbrev s__law_made : Stmt := top 24
abbrev s__law_all : Stmt := top 25
abbrev s__law_heads : Stmt := top 26
abbrev s__law_wide : Stmt := top 27
abbrev s__law_refused : Stmt := top 28
abbrev s__law_goes : Stmt := top 29
abbrev s__law_right : Stmt := top 30
abbrev s_law : Stmt := top 31
abbrev s_NoRow_o___init__ : Stmt := inClass (top 4) 0
abbrev s_Table_o___init__ : Stmt := inClass (top 15) 0
abbrev s_Table_o___len__ : Stmt := inClass (top 15) 1
abbrev s_Table_o___eq__ : Stmt := inClass (top 15) 2
abbrev s_Table_o_columns : Stmt := inClass (top 15) 4
abbrev s_Table_o_rows : Stmt := inClass (top 15) 5
structure Ad where
  c_FoldError : Addr
  c_NoColumns : Addr
  c_NoRow : Addr
  c_NoColumn : Addr
  c_Table : Addr
  f_is_name : Addr
  d_is_name : FuncData
  f_is_value : Addr
  d_is_value : FuncData
  f_is_row : Addr
  d_is_row : FuncData
  f_want_row : Addr
  d_want_row : FuncData
  f_are_columns : Addr
  d_are_columns : FuncData
  f_goes_with : Addr
  d_goes_with : FuncData
  f_joined : Addr
  d_joined : FuncData
  f__law_well : Addr
  d__law_well : FuncData
  f__law_draw : Addr
  d__law_draw : FuncData
  f__law_names : Addr
  d__law_names : FuncData
  f__law_base : Addr
  d__law_base : FuncData
  f__law_picked : Addr
  d__law_picked : FuncData
  f__law_made : Addr
  d__law_made : FuncData
  f__law_all : Addr
  d__law_all : FuncData
  f__law_heads : Addr
  d__law_heads : FuncData
  f__law_wide : Addr
  d__law_wide : FuncData
  f__law_refused : Addr
  d__law_refused : FuncData
  f__law_goes : Addr
  d__law_goes : FuncData
  f__law_right : Addr
  d__law_right : FuncData
  f_law : Addr
  d_law : FuncData
  f_NoRow_o___init__ : Addr
  d_NoRow_o___init__ : FuncData
  f_Table_o___init__ : Addr
  d_Table_o___init__ : FuncData
  f_Table_o___len__ : Addr
  d_Table_o___len__ : FuncData
  f_Table_o___eq__ : Addr
  d_Table_o___eq__ : FuncData
  f_Table_o_columns : Addr
  d_Table_o_columns : FuncData
  f_Table_o_rows : Addr
  d_Table_o_rows : FuncData
structure Tx (K : PySem.W.Frag) (mg : Str → Option Value) (a : Ad) : Prop where
  F_is_name : Df K "is_name" "is_name" s_is_name [] a.f_is_name a.d_is_name
  g_is_name : mg "is_name" = some (.ref a.f_is_name)
  k_is_name : PySem.W.keepIn K (.ref a.f_is_name) = true
  b_is_name : Binds K a.d_is_name ["thing"] []
  F_is_value : Df K "is_value" "is_value" s_is_value [] a.f_is_value a.d_is_value
  g_is_value : mg "is_value" = some (.ref a.f_is_value)
  k_is_value : PySem.W.keepIn K (.ref a.f_is_value) = true
  b_is_value : Binds K a.d_is_value ["thing"] []
  F_is_row : Df K "is_row" "is_row" s_is_row [] a.f_is_row a.d_is_row
  g_is_row : mg "is_row" = some (.ref a.f_is_row)
  k_is_row : PySem.W.keepIn K (.ref a.f_is_row) = true
  b_is_row : Binds K a.d_is_row ["thing", "many"] []
  F_want_row : Df K "want_row" "want_row" s_want_row [.int 0] a.f_want_row a.d_want_row
  g_want_row : mg "want_row" = some (.ref a.f_want_row)
  k_want_row : PySem.W.keepIn K (.ref a.f_want_row) = true
  b_want_row : Binds K a.d_want_row ["thing", "many", "at"] []
  F_are_columns : Df K "are_columns" "are_columns" s_are_columns [] a.f_are_columns a.d_are_columns
  g_are_columns : mg "are_columns" = some (.ref a.f_are_columns)
  k_are_columns : PySem.W.keepIn K (.ref a.f_are_columns) = true
  b_are_columns : Binds K a.d_are_columns ["thing"] []
  F_goes_with : Df K "goes_with" "goes_with" s_goes_with [] a.f_goes_with a.d_goes_with
  g_goes_with : mg "goes_with" = some (.ref a.f_goes_with)
  k_goes_with : PySem.W.keepIn K (.ref a.f_goes_with) = true
  b_goes_with : Binds K a.d_goes_with ["known", "names", "row"] []
  F_joined : Df K "joined" "joined" s_joined [] a.f_joined a.d_joined
  g_joined : mg "joined" = some (.ref a.f_joined)
  k_joined : PySem.W.keepIn K (.ref a.f_joined) = true
  b_joined : Binds K a.d_joined ["tables"] []
  kp0_joined : KBn K a.d_joined ["tables"] 0 ["tables"] (fun us ws => us ++ (pick [0] ws ++ [])) (fun us ws => us ++ (pick [0] ws ++ []))
  F__law_well : Df K "_law_well" "_law_well" s__law_well [] a.f__law_well a.d__law_well
  g__law_well : mg "_law_well" = some (.ref a.f__law_well)
  k__law_well : PySem.W.keepIn K (.ref a.f__law_well) = true
  b__law_well : Binds K a.d__law_well ["_law_cell", "_law_k"] []
  F__law_draw : Df K "_law_draw" "_law_draw" s__law_draw [] a.f__law_draw a.d__law_draw
  g__law_draw : mg "_law_draw" = some (.ref a.f__law_draw)
  k__law_draw : PySem.W.keepIn K (.ref a.f__law_draw) = true
  b__law_draw : Binds K a.d__law_draw ["_law_well_here", "_law_top"] []
  F__law_names : Df K "_law_names" "_law_names" s__law_names [] a.f__law_names a.d__law_names
  g__law_names : mg "_law_names" = some (.ref a.f__law_names)
  k__law_names : PySem.W.keepIn K (.ref a.f__law_names) = true
  b__law_names : Binds K a.d__law_names ["_law_well_here", "_law_count"] []
  F__law_base : Df K "_law_base" "_law_base" s__law_base [] a.f__law_base a.d__law_base
  g__law_base : mg "_law_base" = some (.ref a.f__law_base)
  k__law_base : PySem.W.keepIn K (.ref a.f__law_base) = true
  b__law_base : Binds K a.d__law_base ["_law_well_here"] []
  F__law_picked : Df K "_law_picked" "_law_picked" s__law_picked [] a.f__law_picked a.d__law_picked
  g__law_picked : mg "_law_picked" = some (.ref a.f__law_picked)
  k__law_picked : PySem.W.keepIn K (.ref a.f__law_picked) = true
  b__law_picked : Binds K a.d__law_picked ["_law_well_here", "_law_names_here", "_law_most"] []
  F__law_made : Df K "_law_made" "_law_made" s__law_made [] a.f__law_made a.d__law_made
  g__law_made : mg "_law_made" = some (.ref a.f__law_made)
  k__law_made : PySem.W.keepIn K (.ref a.f__law_made) = true
  b__law_made : Binds K a.d__law_made ["_law_well_here", "_law_names_here", "_law_base_here"] []
  F__law_all : Df K "_law_all" "_law_all" s__law_all [] a.f__law_all a.d__law_all
  g__law_all : mg "_law_all" = some (.ref a.f__law_all)
  k__law_all : PySem.W.keepIn K (.ref a.f__law_all) = true
  b__law_all : Binds K a.d__law_all ["_law_base_here", "_law_many"] []
  F__law_heads : Df K "_law_heads" "_law_heads" s__law_heads [] a.f__law_heads a.d__law_heads
  g__law_heads : mg "_law_heads" = some (.ref a.f__law_heads)
  k__law_heads : PySem.W.keepIn K (.ref a.f__law_heads) = true
  b__law_heads : Binds K a.d__law_heads ["_law_made_here"] []
  F__law_wide : Df K "_law_wide" "_law_wide" s__law_wide [] a.f__law_wide a.d__law_wide
  g__law_wide : mg "_law_wide" = some (.ref a.f__law_wide)
  k__law_wide : PySem.W.keepIn K (.ref a.f__law_wide) = true
  b__law_wide : Binds K a.d__law_wide ["_law_well_here"] []
  F__law_refused : Df K "_law_refused" "_law_refused" s__law_refused [] a.f__law_refused a.d__law_refused
  g__law_refused : mg "_law_refused" = some (.ref a.f__law_refused)
  k__law_refused : PySem.W.keepIn K (.ref a.f__law_refused) = true
  b__law_refused : Binds K a.d__law_refused ["_law_some"] []
  F__law_goes : Df K "_law_goes" "_law_goes" s__law_goes [] a.f__law_goes a.d__law_goes
  g__law_goes : mg "_law_goes" = some (.ref a.f__law_goes)
  k__law_goes : PySem.W.keepIn K (.ref a.f__law_goes) = true
  b__law_goes : Binds K a.d__law_goes ["_law_heads_here", "_law_line", "_law_made_here"] []
  F__law_right : Df K "_law_right" "_law_right" s__law_right [] a.f__law_right a.d__law_right
  g__law_right : mg "_law_right" = some (.ref a.f__law_right)
  k__law_right : PySem.W.keepIn K (.ref a.f__law_right) = true
  b__law_right : Binds K a.d__law_right ["_law_well_here"] []
  F_law : Df K "law" "law" s_law [] a.f_law a.d_law
  g_law : mg "law" = some (.ref a.f_law)
  k_law : PySem.W.keepIn K (.ref a.f_law) = true
  b_law : Binds K a.d_law ["_law_script"] []
  F_NoRow_o___init__ : Df K "__init__" "NoRow.__init__" s_NoRow_o___init__ [] a.f_NoRow_o___init__ a.d_NoRow_o___init__
  k_NoRow_o___init__ : PySem.W.keepIn K (.ref a.f_NoRow_o___init__) = true
  b_NoRow_o___init__ : Binds K a.d_NoRow_o___init__ ["self", "at"] []
  F_Table_o___init__ : Df K "__init__" "Table.__init__" s_Table_o___init__ [.non] a.f_Table_o___init__ a.d_Table_o___init__
  k_Table_o___init__ : PySem.W.keepIn K (.ref a.f_Table_o___init__) = true
  b_Table_o___init__ : Binds K a.d_Table_o___init__ ["self", "columns", "rows"] []
  bx1_Table_o___init__ : ∃ ds, Vals [.non] ds ∧ Binds K a.d_Table_o___init__ ["self", "columns", "rows"] ds
  F_Table_o___len__ : Df K "__len__" "Table.__len__" s_Table_o___len__ [] a.f_Table_o___len__ a.d_Table_o___len__
  k_Table_o___len__ : PySem.W.keepIn K (.ref a.f_Table_o___len__) = true
  b_Table_o___len__ : Binds K a.d_Table_o___len__ ["self"] []
  F_Table_o___eq__ : Df K "__eq__" "Table.__eq__" s_Table_o___eq__ [] a.f_Table_o___eq__ a.d_Table_o___eq__
  k_Table_o___eq__ : PySem.W.keepIn K (.ref a.f_Table_o___eq__) = true
  b_Table_o___eq__ : Binds K a.d_Table_o___eq__ ["self", "other"] []
  F_Table_o_columns : Df K "columns" "Table.columns" s_Table_o_columns [] a.f_Table_o_columns a.d_Table_o_columns
  k_Table_o_columns : PySem.W.keepIn K (.ref a.f_Table_o_columns) = true
  b_Table_o_columns : Binds K a.d_Table_o_columns ["self"] []
  m_Table_o_columns : Meth K a.c_Table "columns" a.f_Table_o_columns
  F_Table_o_rows : Df K "rows" "Table.rows" s_Table_o_rows [] a.f_Table_o_rows a.d_Table_o_rows
  k_Table_o_rows : PySem.W.keepIn K (.ref a.f_Table_o_rows) = true
  b_Table_o_rows : Binds K a.d_Table_o_rows ["self"] []
  m_Table_o_rows : Meth K a.c_Table "rows" a.f_Table_o_rows
  gc_FoldError : mg "FoldError" = some (.ref a.c_FoldError)
  sp_FoldError : PySem.W.specialIn K (.ref a.c_FoldError) "__getattribute__" = some (some (.builtin "type.__getattribute__"))
  rd_FoldError : PySem.W.readsIn K a.c_FoldError (.type "type") = true
  fc_FoldError : PySem.W.findCls K (.ref a.c_FoldError) (.type "type") "__init__" = some (.val (.builtin "ValueError.__init__"))
  gc_NoColumns : mg "NoColumns" = some (.ref a.c_NoColumns)
  xi_NoColumns : PySem.W.excIn K a.c_NoColumns [.type "ValueError", .type "Exception", .type "BaseException", .type "object"] "ValueError.__new__" = true
  kc_NoColumns : PySem.W.keepIn K (.ref a.c_NoColumns) = true
  xb_NoColumns : PySem.W.subIn K (.ref a.c_NoColumns) (.type "BaseException") = some true
  xt_NoColumns : PySem.W.typeIn K (.ref a.c_NoColumns) = some (.type "type")
  xc_NoColumns : ExcC K a.c_NoColumns
  gc_NoRow : mg "NoRow" = some (.ref a.c_NoRow)
  ox_NoRow : OexC K a.c_NoRow
  iC_NoRow : PySem.W.findIn K (.ref a.c_NoRow) "__init__" = some (some (.ref a.f_NoRow_o___init__))
  tI_NoRow : PySem.W.typeIn K (.ref a.f_NoRow_o___init__) = some (.type "function")
  gc_NoColumn : mg "NoColumn" = some (.ref a.c_NoColumn)
  gc_Table : mg "Table" = some (.ref a.c_Table)
  cl_Table : Cls K a.c_Table
  mk_Table : Mk K a.c_Table a.f_Table_o___init__
  fl_Table : PySem.W.findIn K (.ref a.c_Table) "__len__" = some (some (.ref a.f_Table_o___len__))
  il_Table : PySem.W.isFn K (.ref a.f_Table_o___len__) = true
  eq_Table : EqC K a.c_Table a.f_Table_o___eq__
  ex_NoColumns_FoldError : PySem.W.exmOne K (.ref a.c_NoColumns) (.ref a.c_FoldError) = some true
  ki_NoColumns_NoColumn : PySem.W.kitOne K (.ref a.c_NoColumns) (.ref a.c_NoColumn) = some false
  ki_NoColumns_NoRow : PySem.W.kitOne K (.ref a.c_NoColumns) (.ref a.c_NoRow) = some false
  ki_NoneType_Table : PySem.W.kitOne K (.type "NoneType") (.ref a.c_Table) = some false
  ki_bool_Table : PySem.W.kitOne K (.type "bool") (.ref a.c_Table) = some false
  ki_dict_Table : PySem.W.kitOne K (.type "dict") (.ref a.c_Table) = some false
  ki_int_Table : PySem.W.kitOne K (.type "int") (.ref a.c_Table) = some false
  ki_list_Table : PySem.W.kitOne K (.type "list") (.ref a.c_Table) = some false
  ki_str_Table : PySem.W.kitOne K (.type "str") (.ref a.c_Table) = some false
  ki_tuple_Table : PySem.W.kitOne K (.type "tuple") (.ref a.c_Table) = some false
  kt_NoColumns_NoColumns : PySem.W.kitOne K (.ref a.c_NoColumns) (.ref a.c_NoColumns) = some true
  kt_Table_Table : PySem.W.kitOne K (.ref a.c_Table) (.ref a.c_Table) = some true
  na_NoRow_o_at : NoAttr K a.c_NoRow "at"
  na_Table_o_held : NoAttr K a.c_Table "held"
  na_Table_o_named : NoAttr K a.c_Table "named"
  v_LETTERS : ∃ u, mg "LETTERS" = some u ∧ RelV (.str "abcdefghijklmnopqrstuvwxyz") u
  v_LONGEST_NAME : ∃ u, mg "LONGEST_NAME" = some u ∧ RelV (.int 8) u
  v_MOST_COLUMNS : ∃ u, mg "MOST_COLUMNS" = some u ∧ RelV (.int 8) u
  z_all : mg "all" = none
  z_bool : mg "bool" = none
  z_dict : mg "dict" = none
  z_enumerate : mg "enumerate" = none
  z_int : mg "int" = none
  z_isinstance : mg "isinstance" = none
  z_len : mg "len" = none
  z_list : mg "list" = none
  z_min : mg "min" = none
  z_range : mg "range" = none
  z_set : mg "set" = none
  z_sorted : mg "sorted" = none
  z_str : mg "str" = none
  z_tuple : mg "tuple" = none
  z_zip : mg "zip" = none
abbrev N_is_name : List Str := ["thing"]
theorem sc_is_name : FnScope N_is_name ["thing"] (defScope s_is_name) := ⟨rfl, rfl, rfl, by decide +kernel, rfl, by decide +kernel, by decide +kernel⟩
abbrev N_is_value : List Str := ["thing"]
theorem sc_is_value : FnScope N_is_value ["thing"] (defScope s_is_value) := ⟨rfl, rfl, rfl, by decide +kernel, rfl, by decide +kernel, by decide +kernel⟩
abbrev N_is_row : List Str := ["thing", "many", "one"]
theorem sc_is_row : FnScope N_is_row ["thing", "many"] (defScope s_is_row) := ⟨rfl, rfl, rfl, by decide +kernel, rfl, by decide +kernel, by decide +kernel⟩
abbrev N_want_row : List Str := ["thing", "many", "at"]
theorem sc_want_row : FnScope N_want_row ["thing", "many", "at"] (defScope s_want_row) := ⟨rfl, rfl, rfl, by decide +kernel, rfl, by decide +kernel, by decide +kernel⟩
abbrev N_are_columns : List Str := ["thing", "one"]
theorem sc_are_columns : FnScope N_are_columns ["thing"] (defScope s_are_columns) := ⟨rfl, rfl, rfl, by decide +kernel, rfl, by decide +kernel, by decide +kernel⟩
abbrev N_goes_with : List Str := ["known", "names", "row", "name", "value"]
theorem sc_goes_with : FnScope N_goes_with ["known", "names", "row"] (defScope s_goes_with) := ⟨rfl, rfl, rfl, by decide +kernel, rfl, by decide +kernel, by decide +kernel⟩
abbrev N_joined : List Str := ["tables", "columns", "rows", "table", "more", "longer", "row", "known", "other", "seen", "name"]
theorem sc_joined : FnScope N_joined ["tables"] (defScope s_joined) := ⟨rfl, rfl, rfl, by decide +kernel, rfl, by decide +kernel, by decide +kernel⟩
abbrev N__law_well : List Str := ["_law_cell", "_law_k"]
theorem sc__law_well : FnScope N__law_well ["_law_cell", "_law_k"] (defScope s__law_well) := ⟨rfl, rfl, rfl, by decide +kernel, rfl, by decide +kernel, by decide +kernel⟩
abbrev N__law_draw : List Str := ["_law_well_here", "_law_top", "_law_found", "_law_prime", "_law_twist"]
theorem sc__law_draw : FnScope N__law_draw ["_law_well_here", "_law_top"] (defScope s__law_draw) := ⟨rfl, rfl, rfl, by decide +kernel, rfl, by decide +kernel, by decide +kernel⟩
abbrev N__law_names : List Str := ["_law_well_here", "_law_count", "_law_letters", "_law_begin", "_law_apart", "_law_base_here", "_law_spot", "_law_more", "_law_found", "_law_k", "_law_letter"]
theorem sc__law_names : FnScope N__law_names ["_law_well_here", "_law_count"] (defScope s__law_names) := ⟨rfl, rfl, rfl, by decide +kernel, rfl, by decide +kernel, by decide +kernel⟩
abbrev N__law_base : List Str := ["_law_well_here", "_law_great"]
theorem sc__law_base : FnScope N__law_base ["_law_well_here"] (defScope s__law_base) := ⟨rfl, rfl, rfl, by decide +kernel, rfl, by decide +kernel, by decide +kernel⟩
abbrev N__law_picked : List Str := ["_law_well_here", "_law_names_here", "_law_most", "_law_left", "_law_found", "_law_k"]
theorem sc__law_picked : FnScope N__law_picked ["_law_well_here", "_law_names_here", "_law_most"] (defScope s__law_picked) := ⟨rfl, rfl, rfl, by decide +kernel, rfl, by decide +kernel, by decide +kernel⟩
abbrev N__law_made : List Str := ["_law_well_here", "_law_names_here", "_law_base_here", "_law_found", "_law_k", "_law_some", "_law_lines", "_law_j", "_law_name"]
theorem sc__law_made : FnScope N__law_made ["_law_well_here", "_law_names_here", "_law_base_here"] (defScope s__law_made) := ⟨rfl, rfl, rfl, by decide +kernel, rfl, by decide +kernel, by decide +kernel⟩
abbrev N__law_all : List Str := ["_law_base_here", "_law_many", "_law_found", "_law_k", "_law_longer", "_law_line", "_law_step"]
theorem sc__law_all : FnScope N__law_all ["_law_base_here", "_law_many"] (defScope s__law_all) := ⟨rfl, rfl, rfl, by decide +kernel, rfl, by decide +kernel, by decide +kernel⟩
abbrev N__law_heads : List Str := ["_law_made_here", "_law_found", "_law_some", "_law_lines", "_law_name"]
theorem sc__law_heads : FnScope N__law_heads ["_law_made_here"] (defScope s__law_heads) := ⟨rfl, rfl, rfl, by decide +kernel, rfl, by decide +kernel, by decide +kernel⟩
abbrev N__law_wide : List Str := ["_law_well_here", "_law_words", "_law_cut", "_law_line", "_law_word"]
theorem sc__law_wide : FnScope N__law_wide ["_law_well_here"] (defScope s__law_wide) := ⟨rfl, rfl, rfl, by decide +kernel, rfl, by decide +kernel, by decide +kernel⟩
abbrev N__law_refused : List Str := ["_law_some", "_law_found", "e"]
theorem sc__law_refused : FnScope N__law_refused ["_law_some"] (defScope s__law_refused) := ⟨rfl, rfl, rfl, by decide +kernel, rfl, by decide +kernel, by decide +kernel⟩
abbrev N__law_goes : List Str := ["_law_heads_here", "_law_line", "_law_made_here", "_law_some", "_law_lines", "_law_name"]
theorem sc__law_goes : FnScope N__law_goes ["_law_heads_here", "_law_line", "_law_made_here"] (defScope s__law_goes) := ⟨rfl, rfl, rfl, by decide +kernel, rfl, by decide +kernel, by decide +kernel⟩
abbrev N__law_right : List Str := ["_law_well_here", "_law_names_here", "_law_base_here", "_law_made_here", "_law_heads_here", "_law_due", "_law_some", "_law_handed", "_law_turn", "_law_found", "_law_none", "_law_line", "_law_one", "_law_lines"]
theorem sc__law_right : FnScope N__law_right ["_law_well_here"] (defScope s__law_right) := ⟨rfl, rfl, rfl, by decide +kernel, rfl, by decide +kernel, by decide +kernel⟩
abbrev N_law : List Str := ["_law_script", "_law_k", "_law_cell"]
theorem sc_law : FnScope N_law ["_law_script"] (defScope s_law) := ⟨rfl, rfl, rfl, by decide +kernel, rfl, by decide +kernel, by decide +kernel⟩
abbrev N_NoRow_o___init__ : List Str := ["self", "at"]
theorem sc_NoRow_o___init__ : FnScope N_NoRow_o___init__ ["self", "at"] (defScope s_NoRow_o___init__) := ⟨rfl, rfl, rfl, by decide +kernel, rfl, by decide +kernel, by decide +kernel⟩
abbrev N_Table_o___init__ : List Str := ["self", "columns", "rows", "at", "row"]
theorem sc_Table_o___init__ : FnScope N_Table_o___init__ ["self", "columns", "rows"] (defScope s_Table_o___init__) := ⟨rfl, rfl, rfl, by decide +kernel, rfl, by decide +kernel, by decide +kernel⟩
abbrev N_Table_o___len__ : List Str := ["self"]
theorem sc_Table_o___len__ : FnScope N_Table_o___len__ ["self"] (defScope s_Table_o___len__) := ⟨rfl, rfl, rfl, by decide +kernel, rfl, by decide +kernel, by decide +kernel⟩
abbrev N_Table_o___eq__ : List Str := ["self", "other"]
theorem sc_Table_o___eq__ : FnScope N_Table_o___eq__ ["self", "other"] (defScope s_Table_o___eq__) := ⟨rfl, rfl, rfl, by decide +kernel, rfl, by decide +kernel, by decide +kernel⟩
abbrev N_Table_o_columns : List Str := ["self"]
theorem sc_Table_o_columns : FnScope N_Table_o_columns ["self"] (defScope s_Table_o_columns) := ⟨rfl, rfl, rfl, by decide +kernel, rfl, by decide +kernel, by decide +kernel⟩
abbrev N_Table_o_rows : List Str := ["self"]
theorem sc_Table_o_rows : FnScope N_Table_o_rows ["self"] (defScope s_Table_o_rows) := ⟨rfl, rfl, rfl, by decide +kernel, rfl, by decide +kernel, by decide +kernel⟩
section
variable {P : Program} {w : World} {K : PySem.W.Frag} {mg : Str → Option Value} {base : Heap} {a : Ad}
theorem ok_NoRow_o___init__ (T : Tx K mg a) : FnOk P w K mg base CX0 1 a.f_NoRow_o___init__ a.d_NoRow_o___init__ ["self", "at"] (spX1 a.c_NoRow "at") :=
  okInit1 (n := "") T.F_NoRow_o___init__ sc_NoRow_o___init__ rfl T.ox_NoRow T.na_NoRow_o_at fun cdv A outer s H E hr => (by exact (pss_cons (ps_expr (pe_finit rfl T.gc_FoldError T.sp_FoldError T.rd_FoldError T.fc_FoldError (pa_cons (pv 0) (pa_cons pe_str pa_nil)))) (pss_one (ps_ost (pv 0) (pv 1)))))
theorem ex_i {P : Int → Prop} {x : Int} (h : P x) : ∃ i, DV.i x = DV.i i ∧ P i := ⟨x, rfl, h⟩
local macro_rules | `(tactic| walk_at "d") => `(tactic| repeat (first
  | ((with_reducible refine' ws_nrm ?k1 ?_); (case k1 => (dsimp only [wipe2, List.map, List.set]))) | ((with_reducible refine' we_nrm ?k1 ?_); (case k1 => (dsimp only [wipe2, List.map, List.set]))) | ((with_reducible refine' wt_nrm ?k1 ?_); (case k1 => (dsimp only [wipe2, List.map, List.set]))) | ((with_reducible refine' wgs_nrm ?k1 ?_); (case k1 => (dsimp only [wipe2, List.map, List.set]))) | ((with_reducible refine' wg_nrm ?k1 ?_); (case k1 => (dsimp only [wipe2, List.map, List.set])))
  | ((with_reducible refine' ws_nrmW ?k1 ?_); (case k1 => (dsimp only [wipe2, List.map, List.set]))) | ((with_reducible refine' wg_nrmW ?k1 ?_); (case k1 => (dsimp only [wipe2, List.map, List.set]))) | ((with_reducible refine' comp_nrm ?k1 ?_); (case k1 => (dsimp only [wipe2, List.map, List.set])))
  | with_reducible refine ws_seq ?_ | with_reducible refine ws_ret ?_ | with_reducible refine ws_drop ?_ | with_reducible refine ws_set ?_ | with_reducible refine ws_asg ?_ | with_reducible refine wg_sub ?_ | with_reducible refine ws_if ?_ | with_reducible refine ws_next ?_
  | with_reducible refine wt_test ?_ | with_reducible refine wt_B ?_ | with_reducible refine wt_and ?_ | with_reducible refine wt_or ?_ | with_reducible refine wt_not ?_
  | with_reducible refine we_c ?_ | with_reducible refine we_op ?_ | ((with_reducible refine' we_sset2 ?k1 ?_); (case k1 => exact rfl)) | with_reducible refine we_cb ?_ | with_reducible refine we_un ?_ | with_reducible refine we_andV ?_ | with_reducible refine we_orV ?_ | with_reducible refine we_notV ?_ | with_reducible refine we_if ?_ | with_reducible refine we_tup ?_
  | with_reducible refine we_chain ?_ | with_reducible refine wa_cons ?_ | with_reducible refine wa_nil ?_ | with_reducible refine we_sl ?_ | with_reducible refine wo_none ?_ | with_reducible refine wo_some ?_ | with_reducible refine ex_i ?_
  | ((with_reducible refine' we_var ?k1 ?_); (case k1 => exact rfl)) | with_reducible refine ex_b ?_ | ((with_reducible refine if_tt ?k1 ?_); (case k1 => exact rfl)) | ((with_reducible refine if_ff ?k1 ?_); (case k1 => exact rfl))))
local macro_rules | `(tactic| walk_at "w1") => `(tactic| first
  | ((with_reducible refine' nrm ?k1 ?_); (case k1 => (dsimp only [wipe2, List.map, List.set]))) | with_reducible refine stp ?_
  | with_reducible refine told_f ?_ | walk_at "w2")
local macro_rules | `(tactic| walk_at "u") => `(tactic| repeat walk_at "w2")
local macro_rules | `(tactic| walk_at "w2") => `(tactic| first
  | ((with_reducible refine' nrm ?k1 ?_); (case k1 => (dsimp only [wipe2, List.map, List.set]))) | with_reducible refine stp ?_
  | ((with_reducible refine' we_var ?k1 ?_); (case k1 => exact rfl))
  | ((with_reducible refine' ws_aug ?k1 ?_); (case k1 => exact rfl))      
  | with_reducible refine ex_i ?_ | with_reducible refine ex_b ?_
  | with_reducible refine and_size (by with_unfolding_all exact rfl) ?_
  | with_reducible refine ⟨tyOk_str, ?_⟩ | with_reducible refine ⟨ty_l1, ?_⟩ | with_reducible refine ⟨ty_l0, ?_⟩
  | ((with_reducible refine wr_addLM ?k1 ?_); (case k1 => first | omega | (simp <;> omega))) | ((with_reducible refine wr_addM1 (f := DV.s) ?k1 ?_); (case k1 => first | omega | (simp <;> omega))) | ((with_reducible refine wr_addM1 (f := rowD) ?k1 ?_); (case k1 => first | omega | (simp <;> omega))) | ((with_reducible refine wr_addM2 (f := DV.s) ?k1 ?_); (case k1 => first | omega | (simp <;> omega))) | ((with_reducible refine wr_addLL ?k1 ?_); (case k1 => exact rfl)) 
  | ((with_reducible refine wl_toI ?k1 ?_); (case k1 => omega)) | ((with_reducible refine wl_fromI ?k1 ?_); (case k1 => omega)) | ((with_reducible refine wl_lastI ?k1 ?_); (case k1 => omega)) | ((with_reducible refine wl_midI ?k1 ?k2 ?_); (case k1 => omega); (case k2 => omega))
  | ((with_reducible refine wr_neStrs ?k1 ?_); (case k1 => assumption)) | ((with_reducible refine wr_eqStrs ?k1 ?_); (case k1 => assumption)) | ((with_reducible refine wr_neStrR ?k1 ?_); (case k1 => assumption))
  | ((with_reducible refine wr_eqS ?k1 ?_); (case k1 => exact rfl)) | ((with_reducible refine wr_neS ?k1 ?_); (case k1 => exact rfl))  
  | ((with_reducible refine wr_P 100000000 ?k1 ?k2 ?_); (case k1 => decide); (case k2 => exact ⟨by decide, by decide, by decide⟩)) | ((with_reducible refine wr_P 1000000000000000 ?k1 ?k2 ?_); (case k1 => decide); (case k2 => exact ⟨by decide, by decide, by decide⟩))
  | ((with_reducible refine wr_P 1000000000000000000000000000000 ?k1 ?k2 ?_); (case k1 => decide); (case k2 => exact ⟨by decide, by decide, by decide⟩)) | ((with_reducible refine wr_P 1000000000000000000 ?k1 ?k2 ?_); (case k1 => decide); (case k2 => exact ⟨by decide, by decide, by decide⟩))
  | ((with_reducible refine wr_mulI ?k1 ?_); (case k1 => (unfold CMul; omega))) | ((with_reducible refine wr_M ?k1 ?_); (case k1 => first | (show (0 : Int) < _; omega) | exact ⟨by omega, by omega⟩))
  | ((with_reducible refine' wc_isI ?k1 ?_); (case k1 => exact rfl)) | ((with_reducible refine' wc_isS ?k1 ?_); (case k1 => exact rfl)) | ((with_reducible refine' wc_isB ?k1 ?_); (case k1 => exact rfl)) | ((with_reducible refine' wc_isL ?k1 ?_); (case k1 => exact rfl)) | ((with_reducible refine' wc_isT ?k1 ?_); (case k1 => exact rfl))
  | ((with_reducible refine wm_app1 ?k1 ?_); (case k1 => (simp <;> omega)))
  | with_reducible refine wt_yes ⟨rfl, ?_⟩ | with_reducible refine wt_yes ?_  | ((with_reducible refine wg_tup ?k1 ?_); (case k1 => exact rfl))
  | ((with_reducible refine we_lcML ?k1 ?_); (case k1 => first | exact gok_name (by decide) | exact gok_tup (gsok_name (by decide) (gsok_name (by decide) gsok_nil)))) | ((with_reducible refine' compM_nrm ?k1 ?_); (case k1 => (dsimp only [wipe2, List.map, List.set])))  | ((with_reducible refine we_lc ?k1 ?_); (case k1 => first | exact gok_name (by decide) | exact gok_tup (gsok_name (by decide) (gsok_name (by decide) gsok_nil))))    
  | with_reducible refine ⟨_, rfl, by omega, by omega, ?_⟩ | with_reducible refine ⟨_, rfl, ?_⟩ | with_reducible refine ⟨_, _, rfl, ?_⟩ | with_reducible refine ⟨_, .inl rfl, ?_⟩ | with_reducible refine ⟨_, .inr rfl, ?_⟩
  | ((with_reducible refine' fld_of ?k1 ?k2 ?k3 ?k4 ?_); (case k1 => exact .inl rfl); (case k2 => assumption); (case k3 => assumption); (case k4 => exact rfl))
  | ((with_reducible refine' sfld_of ?k1 ?k2 ?k3 ?k4 ?_); (case k1 => first | exact updM_same | assumption); (case k2 => assumption); (case k3 => assumption); (case k4 => exact rfl))
  | ((with_reducible refine' we_callX ?k1 ?_); (case k1 => first | exact xcF | assumption)) | ((with_reducible refine' we_callXD ?k1 ?_); (case k1 => first | exact xcF | assumption)) | ((with_reducible refine' we_methX ?k1 ?_); (case k1 => first | exact xcF | assumption)) | ((with_reducible refine' we_methXD ?k1 ?_); (case k1 => first | exact xcF | assumption)) | ((with_reducible refine' we_callY ?k1 ?_); (case k1 => assumption)) | ((with_reducible refine' we_methY0 ?k1 ?_); (case k1 => assumption)) | ((with_reducible refine' we_methY ?k1 ?_); (case k1 => assumption))
  | ((with_reducible refine' obj_of ?k1 ?k2 ?_); (case k1 => exact .inl rfl); (case k2 => exact rfl))
  | ((with_reducible refine ask_of ?_); first
  | ((with_reducible refine draw1 ?k1 ?k2 ?k3 ?_); (case k1 => omega); (case k2 => omega); (case k3 => omega))
  | ((with_reducible refine draw2 ?k0 ?k1 ?k2 ?k3 ?_); (case k0 => assumption); (case k1 => omega); (case k2 => omega); (case k3 => omega))
  | ((with_reducible refine draw3 ?k0 ?k00 ?k1 ?k2 ?k3 ?_); (case k0 => assumption); (case k00 => assumption); (case k1 => omega); (case k2 => omega); (case k3 => omega))
  | refine ⟨_, rfl, ?_⟩ | refine ⟨_, _, rfl, ?_⟩ | refine ⟨_, _, _, rfl, ?_⟩ | skip)
  | ((with_reducible refine if_ttD ?k1 ?_); (case k1 => first | omega | with_reducible rfl)) | ((with_reducible refine if_ffD ?k1 ?_); (case k1 => omega)) | ((with_reducible refine if_ttN ?k1 ?_); (case k1 => omega)) | ((with_reducible refine if_ffN ?k1 ?_); (case k1 => first | omega | with_reducible rfl))
  | ((with_reducible refine if_tt ?k1 ?_); (case k1 => exact rfl)) | ((with_reducible refine if_ff ?k1 ?_); (case k1 => exact rfl)))
local macro_rules | `(tactic| walk_at "w") => `(tactic| repeat walk_at "w1")
theorem kd_tupE {M : Mu} {d : DV} (h : kdM M d = some .tuple) : ∃ es, d = .tup es := by
  unfold kdM at h
  split at h
  all_goals first | cases h | skip
  · split at h <;> cases h
  · exact ⟨_, rfl⟩
def KnR (M : Mu) (d : DV) : Prop := Kn M d ∧ ∀ es, d = .tup es → es.length ≤ 1000 ∧ ∀ e ∈ es, Kn M e
theorem KnR.row {M : Mu} {r : List Int} (h : r.length ≤ 1000) : KnR M (rowD r) := ⟨Kn.tup, fun es e => by
  have : r.map DV.i = es := by injection e
  subst this
  refine ⟨by simpa using h, fun e he => ?_⟩
  obtain ⟨i, _, rfl⟩ := List.mem_map.mp he
  exact Kn.i⟩
theorem kd_lstE {M : Mu} {d : DV} (h : kdM M d = some .list) : ∃ es, LstOf M d es := by
  unfold kdM at h
  split at h
  all_goals first | cases h | skip
  · split at h
    · exact ⟨_, .inr ⟨_, rfl, by assumption⟩⟩
    · cases h
  · exact ⟨_, .inl rfl⟩
theorem sMap_inj {xs ys : List Str} (h : xs.map DV.s = ys.map DV.s) : xs = ys := by rw [← strsD_map xs, h, strsD_map]
theorem rMap_inj {xs ys : List (List Int)} (h : xs.map rowD = ys.map rowD) : xs = ys := by rw [← rowsD_map xs, h, rowsD_map]
theorem kd_str {M : Mu} {d : DV} (h : kdM M d = some .str) : ∃ z, d = .s z := by
  unfold kdM at h
  split at h
  all_goals first | cases h | skip
  · exact ⟨_, rfl⟩
  · split at h <;> cases h
def tabD (C : Addr) (zs : List Str) (rows : List (List Int)) : DV := .obj C ["named", "held"] [.lst (zs.map DV.s), .lst (rows.map rowD)]
def KnC (M : Mu) (d : DV) : Prop := Kn M d ∧ ∀ es, LstOf M d es → es.length ≤ 1000 ∧ ∀ e ∈ es, Kn M e
def KnT (M : Mu) (d : DV) : Prop := Kn M d ∧ ∀ es, LstOf M d es → es.length ≤ 2000 ∧ ∀ e ∈ es, KnR M e
def sp_is_value : Sp2 := fun ds M Q2 _ => ∃ d k, ds = [d] ∧ kdM M d = some k ∧ Q2 (.b (decide (k = .int))) M
theorem ok_is_value (T : Tx K mg a) : FnOk P w K mg base CX0 3 a.f_is_value a.d_is_value ["thing"] (lift ⟨P, w, K⟩ (sp_is_value)) := by
  refine okD T.F_is_value sc_is_value (fun ds M Q2 E2 h => by obtain ⟨d, k, rfl, _⟩ := h; rfl) fun cdv A outer s H E G Fr ds M Q2 E2 hr h => ⟨_, (pss_one (ps_ret (pe_and (pe_callB (k_isi (K := K) rfl) rfl T.z_isinstance bt_isinstance (pa_cons (pv 0) (pa_cons (pe_bltn (v := .ty "int") rfl T.z_int bt_int rfl) pa_nil))) (pe_one (pe_not (pe_callB (k_isi (K := K) rfl) rfl T.z_isinstance bt_isinstance (pa_cons (pv 0) (pa_cons (pe_bltn (v := .ty "bool") rfl T.z_bool bt_bool rfl) pa_nil)))))))), ?_⟩
  obtain ⟨d, k, rfl, hk, q⟩ := h
  refine ws_start (ρ' := [some _]) rfl ?_
  walk_at "d"
  refine wc_isK .int hk ?_
  walk_at "d"
  cases k <;> walk_at "d" <;> first | exact q | (refine wc_isK .bool hk ?_; walk_at "d"; exact q)
theorem kd_int {M : Mu} {d : DV} {k : Kd} (h : kdM M d = some k) : decide (k = .int) = isIntD d := by
  unfold kdM at h
  split at h
  all_goals first | (cases h; rfl) | (cases h; done) | skip
  split at h
  · cases h; rfl
  · cases h
def sp_is_name : Sp2 := fun ds M Q2 _ => ∃ d, ds = [d] ∧ Kn M d ∧ Q2 (.b (isNameD d)) M
theorem ok_is_name (T : Tx K mg a) : FnOk P w K mg base CX0 3 a.f_is_name a.d_is_name ["thing"] (lift ⟨P, w, K⟩ (sp_is_name)) := by
  refine okD T.F_is_name sc_is_name (fun ds M Q2 E2 h => by obtain ⟨d, rfl, _⟩ := h; rfl) fun cdv A outer s H E G Fr ds M Q2 E2 hr h => ⟨_, (pss_one (ps_ret (pe_and (pe_callB (k_isi (K := K) rfl) rfl T.z_isinstance bt_isinstance (pa_cons (pv 0) (pa_cons (pe_bltn (v := .ty "str") rfl T.z_str bt_str rfl) pa_nil))) (pe_and (pe_chain op_le op_le pe_int (pe_callB (k_len (K := K) rfl) rfl T.z_len bt_len (pa_cons (pv 0) pa_nil)) (pe_glob rfl T.v_LONGEST_NAME.choose_spec.1 T.v_LONGEST_NAME.choose_spec.2)) (pe_one (pe_cmpR (k_eq (K := K) rfl (hu64 hr)) (k_bm (K := K) rfl PySem.F.plainAttrs_str PySem.F.slot_str_strip PySem.F.type_str_strip mt_stripA (pv 0) (pa_cons (pe_glob rfl T.v_LETTERS.choose_spec.1 T.v_LETTERS.choose_spec.2) pa_nil)) pe_str (nomark _))))))), ?_⟩
  obtain ⟨d, rfl, ⟨⟨k, hk⟩, hz⟩, q⟩ := h
  refine ws_start (ρ' := [some _]) rfl ?_
  walk_at "d"
  refine wc_isK .str hk ?_
  walk_at "d"
  by_cases e : k = .str
  · subst e
    obtain ⟨z, rfl⟩ := kd_str hk
    have hz : z.length ≤ sizeLine := le_size (Nat.le_trans (hz z rfl) (by decide))
    replace q : Q2 (.b (nameB z)) M := q
    walk_at "d"
    refine wc_lenT hz ?_
    refine wr_I0 ?_
    refine ex_b (if_b (fun h1 => ?_) fun h1 => ?_)
    · walk_at "d"
      refine wr_I0 ?_
      refine ex_b (if_b (fun h2 => ?_) fun h2 => ?_)
      · walk_at "d"
        refine we_bm ?_
        walk_at "d"
        refine ⟨tyOk_str, ?_⟩
        walk_at "d"
        refine wm_strip hz ?_
        walk_at "d"
        refine wr_eqS rfl ?_
        unfold nameB at q
        rw [h1, h2] at q
        exact q
      · unfold nameB at q
        rw [h1, h2] at q
        exact q
    · unfold nameB at q
      rw [h1] at q
      exact ex_b (iteF q)
  · have e2 : subK k .str = false := by cases k <;> first | rfl | exact absurd rfl e
    have e3 : isNameD d = false := by
      unfold isNameD
      split
      · cases hk; exact absurd rfl e
      · rfl
    rw [e2]
    rw [e3] at q
    walk_at "d"
    exact q
def sp_is_row : Sp2 := fun ds M Q2 _ => ∃ d m, ds = [d, .i m] ∧ KnR M d ∧ Q2 (.b (isRowD d m)) M
theorem ok_is_row (T : Tx K mg a) : FnOk P w K mg base CX0 6 a.f_is_row a.d_is_row ["thing", "many"] (lift ⟨P, w, K⟩ (sp_is_row)) := by
  refine okD T.F_is_row sc_is_row (fun ds M Q2 E2 h => by obtain ⟨d, m, rfl, _⟩ := h; rfl) fun cdv A outer s H E G Fr ds M Q2 E2 hr h => ⟨_, (pss_one (ps_ret (pe_and (pe_callB (k_isi (K := K) rfl) rfl T.z_isinstance bt_isinstance (pa_cons (pv 0) (pa_cons (pe_bltn (v := .ty "tuple") rfl T.z_tuple bt_tuple rfl) pa_nil))) (pe_and (pe_cmpR (k_eq (K := K) rfl (hu64 hr)) (pe_callB (k_len (K := K) rfl) rfl T.z_len bt_len (pa_cons (pv 0) pa_nil)) (pv 1) (nomark _)) (pe_one (pe_callB (k_all (K := K) rfl rfl) rfl T.z_all bt_all (pa_cons (pe_lc (own := [("one", 2)]) (g := gName 2) rfl sc_is_row.nd (k_seq (K := K) rfl (pv 0)) (blkOk_by (N := N_is_row) (own := [("one", 2)]) (sc := defScope s_is_row) (by first | decide +kernel | kernel_rfl)) (fun _ _ _ _ _ => (pg_name (i := 2) sc_is_row.nd rfl (Or.inl rfl))) (fun _ _ _ _ _ => pts_nil) (fun _ _ _ _ _ => (pe_call (ok_is_value (P := P) (w := w) (K := K) (base := base) T) (hr.mono (by decide)) rfl T.g_is_value T.k_is_value T.b_is_value .nil passZ (pa_cons (pv 2) pa_nil)))) pa_nil))))))), ?_⟩
  obtain ⟨d, m, rfl, ⟨⟨⟨k, hk⟩, _⟩, hd⟩, q⟩ := h
  refine ws_start (ρ' := [some _, some _, none]) rfl ?_
  walk_at "d"
  refine wc_isK .tuple hk ?_
  walk_at "d"
  by_cases e : k = .tuple
  · subst e
    obtain ⟨es, rfl⟩ := kd_tupE hk
    obtain ⟨hz, hes⟩ := hd es rfl
    replace q : Q2 (.b (decide (((es.length : Nat) : Int) = m) && es.all isIntD)) M := q
    walk_at "w"
    have eV : decide (V.int ((es.length : Nat) : Int) = V.int m) = decide (((es.length : Nat) : Int) = m) := by
      by_cases h : ((es.length : Nat) : Int) = m
      · rw [decide_eq_true h, h, decide_eq_true rfl]
      · rw [decide_eq_false h, decide_eq_false fun e => h (by injection e)]
    rw [eV]
    refine if_b (fun h1 => ?_) fun h1 => ?_
    · rw [h1] at q
      walk_at "d"
      refine we_lc (gok_name (by decide)) (wi_seq ?_)
      walk_at "d"
      refine ⟨es, .inr rfl, comp_map (fun e => .b (isIntD e)) es [] (by simp; exact Nat.le_trans hz (by decide)) (fun d hd F k2 hk2 => ?_) ?_⟩
      · walk_at "w"
        obtain ⟨⟨k, hk⟩, _⟩ := hes d hd
        exact ⟨d, k, rfl, hk, by rw [kd_int hk]; exact hk2⟩
      · walk_at "d"
        refine wc_all (bs := es.map isIntD) (.inl (by simp)) ?_
        have e2 : (es.map isIntD).all id = es.all isIntD := by simp [Function.comp_def]
        rw [e2]
        exact q
    · rw [h1] at q
      exact q
  · have e2 : subK k .tuple = false := by cases k <;> first | rfl | exact absurd rfl e
    have e3 : isRowD d m = false := by
      unfold isRowD
      split
      · cases hk; exact absurd rfl e
      · rfl
    rw [e2]
    rw [e3] at q
    walk_at "d"
    exact q
def sp_want_row (a : Ad) : Sp2 := fun ds M Q2 E2 => ∃ d m at_, ds = [d, .i m, at_] ∧ KnR M d ∧ (isRowD d m = true → Q2 .n M) ∧ (isRowD d m = false → E2 a.c_NoRow ["at"] [at_] M)
theorem ok_want_row (T : Tx K mg a) : FnOk P w K mg base (L2.CX P w) 9 a.f_want_row a.d_want_row ["thing", "many", "at"] (lift ⟨P, w, K⟩ (sp_want_row a)) := by
  refine okDX T.F_want_row sc_want_row (fun ds M Q2 E2 h => by obtain ⟨d, m, at_, rfl, _⟩ := h; rfl) fun cdv A outer s H E G Fr ds M Q2 E2 hr h hx => ⟨_, (pss_one (ps_if (pt_not (pt_val (pe_call (ok_is_row (P := P) (w := w) (K := K) (base := base) T) (hr.mono (by decide)) rfl T.g_is_row T.k_is_row T.b_is_row .nil passZ (pa_cons (pv 0) (pa_cons (pv 1) pa_nil))))) (pss_one (ps_raise rfl (takes_of rfl rfl rfl rfl) (pmk_oex T.ox_NoRow T.iC_NoRow T.tI_NoRow (ok_NoRow_o___init__ (P := P) (w := w) (K := K) (base := base) T) (hr.mono (by decide)) T.b_NoRow_o___init__ .nil passZ rfl T.gc_NoRow (pa_cons (pv 2) pa_nil)))) pss_nil)), ?_⟩
  obtain ⟨d, m, at_, rfl, hd, q1, q2⟩ := h
  refine ws_start (ρ' := [some _, some _, some _]) rfl ?_
  walk_at "w"
  refine ⟨hd, ?_⟩
  cases e : isRowD d m with
  | true =>
    walk_at "w"
    exact q1 e
  | false =>
    walk_at "w"
    refine ws_raise1 (wx_of hx) ?_
    walk_at "w"
    exact q2 e
def sp_are_columns : Sp2 := fun ds M Q2 _ => ∃ d, ds = [d] ∧ Kn M d ∧ (∀ es, LstOf M d es → es.length ≤ 1000 ∧ ∀ e ∈ es, Kn M e) ∧ Q2 (.b (colsM M d).isSome) M
theorem ok_are_columns (T : Tx K mg a) : FnOk P w K mg base CX0 6 a.f_are_columns a.d_are_columns ["thing"] (lift ⟨P, w, K⟩ (sp_are_columns)) := by
  refine okD T.F_are_columns sc_are_columns (fun ds M Q2 E2 h => by obtain ⟨d, rfl, _⟩ := h; rfl) fun cdv A outer s H E G Fr ds M Q2 E2 hr h => ⟨_, (pss_cons (ps_if (PW.pt (pw_or (pt_not (pt_val (pe_callB (k_isi (K := K) rfl) rfl T.z_isinstance bt_isinstance (pa_cons (pv 0) (pa_cons (pe_bltn (v := .ty "list") rfl T.z_list bt_list rfl) pa_nil))))) (pw_or (pt_cmpR op_gt (pe_callB (k_len (K := K) rfl) rfl T.z_len bt_len (pa_cons (pv 0) pa_nil)) (pe_glob rfl T.v_MOST_COLUMNS.choose_spec.1 T.v_MOST_COLUMNS.choose_spec.2) (nomark _)) (pw_or1 (pt_not (pt_val (pe_callB (k_all (K := K) rfl rfl) rfl T.z_all bt_all (pa_cons (pe_lc (own := [("one", 1)]) (g := gName 1) rfl sc_are_columns.nd (k_lsM (K := K) rfl (pv 0)) (blkOk_by (N := N_are_columns) (own := [("one", 1)]) (sc := defScope s_are_columns) (by first | decide +kernel | kernel_rfl)) (fun _ _ _ _ _ => (pg_name (i := 1) sc_are_columns.nd rfl (Or.inl rfl))) (fun _ _ _ _ _ => pts_nil) (fun _ _ _ _ _ => (pe_call (ok_is_name (P := P) (w := w) (K := K) (base := base) T) (hr.mono (by decide)) rfl T.g_is_name T.k_is_name T.b_is_name .nil passZ (pa_cons (pv 1) pa_nil)))) pa_nil)))))))) (pss_one (ps_ret pe_bl)) pss_nil) (pss_one (ps_ret (pe_cmpR (k_eq (K := K) rfl (hu64 hr)) (k_lenS (K := K) rfl rfl rfl T.z_len rfl T.z_set (pv 0)) (pe_callB (k_len (K := K) rfl) rfl T.z_len bt_len (pa_cons (pv 0) pa_nil)) (nomark _))))), ?_⟩
  obtain ⟨d, rfl, ⟨⟨k, hk⟩, _⟩, hd, q⟩ := h
  refine ws_start (ρ' := [some _, none]) rfl ?_
  walk_at "d"
  refine wc_isK .list hk ?_
  walk_at "d"
  by_cases e : k = .list
  · subst e
    obtain ⟨es, l⟩ := kd_lstE hk
    obtain ⟨hz, hes⟩ := hd es l
    replace q : Q2 (.b (areCols es)) M := by
      unfold colsM at q
      rw [lstM_of.mpr l] at q
      cases h : areCols es <;> simpa [h] using q
    walk_at "w"
    refine wc_lenQ (.inl l) ?_
    walk_at "w"
    refine if_d (fun h8 => ?_) fun h8 => ?_
    · have e8 : areCols es = false := by simp [areCols]; omega
      rw [e8] at q
      walk_at "w"
      exact q
    replace h8 : es.length ≤ 8 := by omega
    walk_at "w"
    refine ⟨es, l, ?_⟩
    walk_at "w"
    refine comp_mapM (fun e => .b (isNameD e)) l es [] (by simp; exact Nat.le_trans hz (by decide)) (fun d' hd' F k2 hk2 => ?_) ?_
    · walk_at "w"
      exact ⟨hes d' hd', hk2⟩
    walk_at "w"
    refine wc_all (bs := es.map isNameD) (.inl (by simp)) ?_
    have e2 : (es.map isNameD).all id = es.all isNameD := by simp [Function.comp_def]
    rw [e2]
    walk_at "w"
    cases ha : es.all isNameD with
    | false =>
      have e9 : areCols es = false := by simp [areCols, ha]
      rw [e9] at q
      walk_at "w"
      exact q
    | true =>
      have en := names_map ha
      walk_at "w"
      refine we_lenS ?_
      walk_at "w"
      refine ⟨strsD es, by rw [← en]; exact l, by have := congrArg List.length en; rw [List.length_map] at this; omega, ?_⟩
      walk_at "w"
      refine wc_lenQ (.inl l) ?_
      walk_at "w"
      have e9 : areCols es = decide (V.int ((uniq (strsD es)).length : Nat) = V.int (es.length : Nat)) := by
        have hl : es.length = (strsD es).length := by have := congrArg List.length en; rw [List.length_map] at this; exact this
        unfold areCols
        rw [ha, decide_eq_true h8, hl]
        by_cases hn : (strsD es).Nodup
        · rw [decide_eq_true hn, uniq_nodup hn, decide_eq_true rfl]; rfl
        · rw [decide_eq_false hn, decide_eq_false fun e => hn (uniq_len.mp (by injection e with e; omega))]; rfl
      rw [e9] at q
      exact q
  · have e2 : subK k .list = false := by cases k <;> first | rfl | exact absurd rfl e
    have e3 : colsM M d = none := by
      unfold colsM
      cases h : lstM M d with
      | none => rfl
      | some es =>
        have := kd_of (lstM_of.mp h)
        rw [hk] at this
        cases this
        exact absurd rfl e
    rw [e2]
    rw [e3] at q
    walk_at "d"
    exact q
def sp_init (a : Ad) : Sp2 := fun ds M Q2 E2 => ∃ x d e, ds = [.r x, d, e] ∧ M x = some (.ins a.c_Table [] []) ∧ KnC M d ∧ KnT M e ∧ (colsM M d = none → E2 a.c_NoColumns [] [] M) ∧
  ∀ zs, colsM M d = some zs → (∀ j, rowsM M (zs.length : Nat) e = .inl j → E2 a.c_NoRow ["at"] [.i (j : Nat)] M) ∧
    ∀ rows, rowsM M (zs.length : Nat) e = .inr rows → rows.length < 1000 ∧ Q2 .n (updM M x (.ins a.c_Table ["named", "held"] [.lst (zs.map DV.s), .lst ((sset rows).map rowD)]))
theorem ok_Table_o___init__ (T : Tx K mg a) : FnOk P w K mg base (L2.CX P w) 12 a.f_Table_o___init__ a.d_Table_o___init__ ["self", "columns", "rows"] (lift ⟨P, w, K⟩ (sp_init a)) := by
  refine okDX T.F_Table_o___init__ sc_Table_o___init__ (fun ds M Q2 E2 h => by obtain ⟨x, d, e, rfl, _⟩ := h; rfl) fun cdv A outer s H E G Fr ds M Q2 E2 hr h hx => ⟨_, (pss_cons (ps_if (pt_not (pt_val (pe_call (ok_are_columns (P := P) (w := w) (K := K) (base := base) T) (hr.mono (by decide)) rfl T.g_are_columns T.k_are_columns T.b_are_columns .nil passZ (pa_cons (pv 1) pa_nil)))) (pss_one (ps_raise rfl (takes_of rfl rfl rfl rfl) (pmk_own PySem.F.excBase_ValueError T.xi_NoColumns T.gc_NoColumns T.kc_NoColumns (raises_own T.xb_NoColumns T.xt_NoColumns) rfl))) pss_nil) (pss_cons (ps_if (pt_cmpR op_isNA (pv 2) pe_non (nomark _)) (pss_one (ps_set (i := 2) sc_Table_o___init__.nd rfl (Or.inl rfl) (pe_lst pa_nil))) pss_nil) (pss_cons (ps_if (pt_not (pt_val (pe_callB (k_isi (K := K) rfl) rfl T.z_isinstance bt_isinstance (pa_cons (pv 2) (pa_cons (pe_bltn (v := .ty "list") rfl T.z_list bt_list rfl) pa_nil))))) (pss_one (ps_raise rfl (takes_of rfl rfl rfl rfl) (pmk_oex T.ox_NoRow T.iC_NoRow T.tI_NoRow (ok_NoRow_o___init__ (P := P) (w := w) (K := K) (base := base) T) (hr.mono (by decide)) T.b_NoRow_o___init__ .nil passZ rfl T.gc_NoRow (pa_cons pe_int pa_nil)))) pss_nil) (pss_cons (ps_for (passes_of rfl) rfl (k_enumM (K := K) rfl rfl T.z_enumerate (pa_cons (pv 2) pa_nil)) (k_gtup (K := K) rfl rfl (pgs_cons (pg_name (i := 3) sc_Table_o___init__.nd rfl (Or.inl rfl)) (pgs_cons (pg_name (i := 4) sc_Table_o___init__.nd rfl (Or.inl rfl)) pgs_nil))) (pss_one (ps_expr (pe_call (ok_want_row (P := P) (w := w) (K := K) (base := base) T) (hr.mono (by decide)) rfl T.g_want_row T.k_want_row T.b_want_row .nil (passE (takes_of rfl rfl rfl rfl) fun _ _ _ _ h => h) (pa_cons (pv 4) (pa_cons (pe_callB (k_len (K := K) rfl) rfl T.z_len bt_len (pa_cons (pv 1) pa_nil)) (pa_cons (pv 3) pa_nil))))))) (pss_cons (k_sfld (K := K) rfl (pv 0) (pe_callTy (k_list (K := K) rfl) rfl T.z_list bt_list (pa_cons (pv 1) pa_nil)) rfl) (pss_one (k_sfld (K := K) rfl (pv 0) (pe_callB (k_sortG2 (P := P) (w := w) (K := K) rfl rfl rfl rfl) rfl T.z_sorted bt_sorted (pa_cons (pe_callTy (k_setT2 (P := P) (w := w) (K := K) rfl rfl rfl rfl (hu64 hr)) rfl T.z_set bt_set (pa_cons (pv 2) pa_nil)) pa_nil)) rfl))))))), ?_⟩
  obtain ⟨x, d, e, rfl, hm, hd, he, q1, q2⟩ := h
  have cl_Table := T.cl_Table
  have na_Table_named := T.na_Table_o_named
  have na_Table_held := T.na_Table_o_held
  refine ws_start (ρ' := [some _, some _, some _, none, none]) rfl ?_
  walk_at "w"
  refine ⟨hd.1, hd.2, ?_⟩
  walk_at "w"
  cases ec : colsM M d with
  | none =>
    walk_at "w"
    exact ws_raise0 (wx_of hx) (q1 ec)
  | some zs =>
    obtain ⟨q3, q4⟩ := q2 zs ec
    obtain ⟨lc, ho⟩ := colsM_some ec
    refine if_ff rfl (ws_next ?_)
    refine ws_seq (ws_cut (fun ρ' M' => M' = M ∧ ∃ e', ρ' = [some (.r x), some d, some e', none, none] ∧ rowsM M (zs.length : Nat) e' = rowsM M (zs.length : Nat) e ∧ KnT M e' ∧ isNonD e' = false) ?_ ?_)
    · walk_at "w"
      cases en : isNonD e with
      | true =>
        have : e = .n := by
          unfold isNonD at en
          split at en
          · rw [of_decide_eq_true en]
          · cases en
        subst this
        walk_at "w"
        exact ⟨rfl, _, rfl, rfl, ⟨Kn.lst, fun es l => by
          rcases l with l | ⟨_, l, _⟩
          · cases l; simp
          · cases l⟩, rfl⟩
      | false =>
        walk_at "w"
        exact ⟨rfl, e, rfl, rfl, he, en⟩
    rintro ρ' M' ⟨rfl, e', rfl, er, he', en'⟩
    rw [← er] at q3 q4
    obtain ⟨⟨⟨k, hk⟩, _⟩, hes⟩ := he'
    walk_at "w"
    refine wc_isK .list hk ?_
    walk_at "w"
    by_cases ek : k = .list
    · subst ek
      obtain ⟨es, l⟩ := kd_lstE hk
      obtain ⟨hz, hes⟩ := hes es l
      walk_at "w"
      refine ⟨e', es, rfl, l, ?_⟩
      refine loop_KI [3, 4] (fun i => ∀ (k : Nat) d, k < i → es[k]? = some d → isRowD d (zs.length : Nat) = true) l (fun k d hk => absurd hk (by omega)) (fun i d' hi hI => ?_) fun hI => ?_
      · obtain ⟨r, hr', rfl⟩ := enumD_get hi
        refine wg_tup rfl ?_
        walk_at "w"
        refine wc_lenQ (.inl lc) ?_
        walk_at "w"
        refine ⟨hes r (List.mem_of_getElem? hr'), fun hb => ?_, fun hb => ?_⟩
        · refine ⟨by dsimp only [wipe2, List.set], rfl, fun k d hk he => ?_⟩
          by_cases e : k = i
          · subst e
            rw [hr'] at he
            cases he
            rw [List.length_map] at hb
            exact hb
          · exact hI k d (by omega) he
        · refine q3 i ?_
          rw [List.length_map] at hb
          unfold rowsM
          split
          · cases en'
          · rw [lstM_of.mpr l]
            simp only [badAt_some hI hr' hb, Nat.zero_add]
      · rw [enumD_len] at hI
        have er2 : rowsM M' (zs.length : Nat) e' = .inr (rowsD es) := by
          unfold rowsM
          split
          · cases en'
          · rw [lstM_of.mpr l]
            simp only [badAt_all hI]
        obtain ⟨h64, q⟩ := q4 _ er2
        obtain ⟨ers, hrl⟩ := badAt_none (badAt_all (j := 0) hI)
        walk_at "w"
        refine wc_listQ (.inl lc) ?_
        walk_at "w"
        refine ⟨rowsD es, zs.length, ?_, h64, fun r hr => Int.ofNat_inj.mp (hrl r hr), ?_⟩
        · rw [← ers]
          exact l.upd hm (fun _ h => by cases h)
        walk_at "w"
        rw [updM_upd]
        exact q
    · have e2 : subK k .list = false := by cases k <;> first | rfl | exact absurd rfl ek
      rw [e2]
      walk_at "w"
      refine ws_raise1 (wx_of hx) ?_
      walk_at "w"
      refine q3 0 ?_
      unfold rowsM
      split
      · cases en'
      · cases h : lstM M' e' with
        | none => rfl
        | some es =>
          have := kd_of (lstM_of.mp h)
          rw [hk] at this
          cases this
          exact absurd rfl ek
theorem lst_back {M : Mu} {x : Addr} {o : MO} {d : DV} {es : List DV} (h : M x = none) (ho : ∀ ds, o ≠ .lst ds) (l : LstOf (updM M x o) d es) : LstOf M d es := lstM_of.mp (by rw [← lstM_new h ho]; exact lstM_of.mpr l)
/-- Table(..) -/
theorem we_tab {a : Ad} {Z : Zn} {ρ : Ro} {M : Mu} {tx : TA} {Q2 : DQ} {E : XK} {E2 : XK2} {dvs : List V} (hx : XcOk Z E2 E) (h : WA Z tx ρ M fun es M1 => ∃ d e, es ++ dvs.map DV.v = [d, e] ∧ KnC M1 d ∧ KnT M1 e ∧ (colsM M1 d = none → E2 a.c_NoColumns [] [] M1) ∧
    ∀ zs, colsM M1 d = some zs → (∀ j, rowsM M1 (zs.length : Nat) e = .inl j → E2 a.c_NoRow ["at"] [.i (j : Nat)] M1) ∧ ∀ rows, rowsM M1 (zs.length : Nat) e = .inr rows → rows.length < 1000 ∧ Q2 (tabD a.c_Table zs (sset rows)) M1) :
    WE Z (tMake a.c_Table (lift Z.W (sp_init a)) dvs E tx) ρ M Q2 := we_makeF hx.weak (h.imp fun es M1 ⟨d, e, ee, hd, he, q1, q2⟩ x h0 => by
      have no : ∀ ds, MO.ins a.c_Table [] [] ≠ .lst ds := fun _ h => by cases h
      rw [ee]
      refine ⟨x, d, e, rfl, updM_same, ⟨hd.1.new h0, fun es l => ?_⟩, ⟨he.1.new h0, fun es l => ?_⟩, fun ec => ⟨M1, MLe.dropN h0, q1 (by rw [← ec, colsM_new h0 no])⟩, fun zs ec => ⟨fun j er => ⟨M1, MLe.dropN h0, (q2 zs (by rw [← ec, colsM_new h0 no])).1 j (by rw [← er, rowsM_new h0 no])⟩, fun rows er => ?_⟩⟩
      · obtain ⟨h1, h2⟩ := hd.2 es (lst_back h0 no l)
        exact ⟨h1, fun e he => (h2 e he).new h0⟩
      · obtain ⟨h1, h2⟩ := he.2 es (lst_back h0 no l)
        exact ⟨h1, fun e he => ⟨(h2 e he).1.new h0, fun es' ee' => ⟨((h2 e he).2 es' ee').1, fun e' he' => (((h2 e he).2 es' ee').2 e' he').new h0⟩⟩⟩
      · obtain ⟨h64, q⟩ := (q2 zs (by rw [← ec, colsM_new h0 no])).2 rows (by rw [← er, rowsM_new h0 no])
        refine ⟨h64, rfl, _, updM_same, trivial, ?_⟩
        rw [updM_upd, delM_updM h0]
        exact q)
theorem KnC.names {M : Mu} {d : DV} {zs : List Str} (l : LstOf M d (zs.map DV.s)) (h : okNames zs) : KnC M d := ⟨⟨⟨.list, kd_of l⟩, fun z e => by
    subst e; rcases l with l | ⟨_, l, _⟩ <;> cases l⟩, fun es l' => by
  have := (lstM_of.mpr l).symm.trans (lstM_of.mpr l')
  cases this
  refine ⟨by have := h.1; simp; omega, fun e he => ?_⟩
  obtain ⟨z, hz, rfl⟩ := List.mem_map.mp he
  exact Kn.s (by have := name_len (h.2.1 z hz); omega)⟩
theorem KnT.rows {M : Mu} {d : DV} {rows : List (List Int)} (l : LstOf M d (rows.map rowD)) (h : rows.length ≤ 2000) (hw : ∀ r ∈ rows, r.length ≤ 1000) : KnT M d := ⟨⟨⟨.list, kd_of l⟩, fun z e => by
    subst e; rcases l with l | ⟨_, l, _⟩ <;> cases l⟩, fun es l' => by
  have := (lstM_of.mpr l).symm.trans (lstM_of.mpr l')
  cases this
  refine ⟨by simpa using h, fun e he => ?_⟩
  obtain ⟨r, hr, rfl⟩ := List.mem_map.mp he
  exact KnR.row (hw r hr)⟩
/-- .. of names and rows -/
theorem we_tabR {a : Ad} {Z : Zn} {ρ : Ro} {M : Mu} {tx : TA} {Q2 : DQ} {E : XK} {E2 : XK2} (hx : XcOk Z E2 E) (h : WA Z tx ρ M fun es M1 => ∃ d e zs rows, es = [d, e] ∧ LstOf M1 d (zs.map DV.s) ∧ LstOf M1 e (rows.map rowD) ∧ okNames zs ∧ rows.length < 1000 ∧ (∀ r ∈ rows, r.length = zs.length) ∧ Q2 (tabD a.c_Table zs (sset rows)) M1) :
    WE Z (tMake a.c_Table (lift Z.W (sp_init a)) [] E tx) ρ M Q2 := we_tab hx (h.imp fun es M1 ⟨d, e, zs, rows, ee, l1, l2, hn, h64, hw, q⟩ => by
      refine ⟨d, e, by rw [List.map_nil, List.append_nil]; exact ee, KnC.names l1 hn, KnT.rows l2 (by omega) (fun r hr => by have := hn.1; have := hw r hr; omega), fun ec => ?_, fun zs' ec => ?_⟩
      · rw [colsM_ok l1 hn] at ec
        cases ec
      · rw [colsM_ok l1 hn] at ec
        cases ec
        have er := rowsM_ok (m := (zs.length : Nat)) l2 fun r hr => by rw [hw r hr]
        rw [er]
        exact ⟨fun j h => (by cases h), fun rows' h => (by cases h; exact ⟨h64, q⟩)⟩)
def sp_rows (a : Ad) : Sp2 := fun ds M Q2 _ => ∃ zs rows, ds = [tabD a.c_Table zs rows] ∧ Told Q2 M (rows.map rowD)
theorem ok_Table_o_rows (T : Tx K mg a) : FnOk P w K mg base CX0 3 a.f_Table_o_rows a.d_Table_o_rows ["self"] (lift ⟨P, w, K⟩ (sp_rows a)) := by
  refine okD T.F_Table_o_rows sc_Table_o_rows (fun ds M Q2 E2 h => by obtain ⟨zs, rows, rfl, _⟩ := h; rfl) fun cdv A outer s H E G Fr ds M Q2 E2 hr h => ⟨_, (pss_one (ps_ret (pe_as (pe_callTy (k_list (K := K) rfl) rfl T.z_list bt_list (pa_cons (k_fld (K := K) rfl (pv 0) rfl) pa_nil))))), ?_⟩
  obtain ⟨zs, rows, rfl, q⟩ := h
  have cl_Table := T.cl_Table
  have na_Table_held := T.na_Table_o_held
  refine ws_start (ρ' := [some _]) rfl ?_
  refine ws_ret (we_asList ?_)
  walk_at "w"
  exact ⟨_, _, rfl, .inl (.inl rfl), q⟩
def sp_columns (a : Ad) : Sp2 := fun ds M Q2 _ => ∃ zs rows, ds = [tabD a.c_Table zs rows] ∧ Told Q2 M (zs.map DV.s)
theorem ok_Table_o_columns (T : Tx K mg a) : FnOk P w K mg base CX0 3 a.f_Table_o_columns a.d_Table_o_columns ["self"] (lift ⟨P, w, K⟩ (sp_columns a)) := by
  refine okD T.F_Table_o_columns sc_Table_o_columns (fun ds M Q2 E2 h => by obtain ⟨zs, rows, rfl, _⟩ := h; rfl) fun cdv A outer s H E G Fr ds M Q2 E2 hr h => ⟨_, (pss_one (ps_ret (pe_as (pe_callTy (k_list (K := K) rfl) rfl T.z_list bt_list (pa_cons (k_fld (K := K) rfl (pv 0) rfl) pa_nil))))), ?_⟩
  obtain ⟨zs, rows, rfl, q⟩ := h
  have cl_Table := T.cl_Table
  have na_Table_named := T.na_Table_o_named
  refine ws_start (ρ' := [some _]) rfl ?_
  refine ws_ret (we_asList ?_)
  walk_at "w"
  exact ⟨_, _, rfl, .inl (.inl rfl), q⟩
def sp_len (a : Ad) : Sp2 := fun ds M Q2 _ => ∃ zs rows, ds = [tabD a.c_Table zs rows] ∧ Q2 (.i (rows.length : Nat)) M
theorem ok_Table_o___len__ (T : Tx K mg a) : FnOk P w K mg base CX0 3 a.f_Table_o___len__ a.d_Table_o___len__ ["self"] (lift ⟨P, w, K⟩ (sp_len a)) := by
  refine okD T.F_Table_o___len__ sc_Table_o___len__ (fun ds M Q2 E2 h => by obtain ⟨zs, rows, rfl, _⟩ := h; rfl) fun cdv A outer s H E G Fr ds M Q2 E2 hr h => ⟨_, (pss_one (ps_ret (pe_callB (k_len (K := K) rfl) rfl T.z_len bt_len (pa_cons (k_fld (K := K) rfl (pv 0) rfl) pa_nil)))), ?_⟩
  obtain ⟨zs, rows, rfl, q⟩ := h
  have cl_Table := T.cl_Table
  have na_Table_held := T.na_Table_o_held
  refine ws_start (ρ' := [some _]) rfl ?_
  walk_at "w"
  exact q
structure Tab (zs : List Str) (rows : List (List Int)) : Prop where
  ok : okNames zs
  sk : ∀ z ∈ zs, PyData.strOk z = true
  ris : Rising rows
  few : rows.length < 1000
  wid : ∀ r ∈ rows, r.length = zs.length
theorem kit_table {K : PySem.W.Frag} {mg : Str → Option Value} {a : Ad} (T : Tx K mg a) (k : Kd) : PySem.W.kitOne K (.type k.nm) (.ref a.c_Table) = some false := by
  cases k
  · exact T.ki_int_Table
  · exact T.ki_str_Table
  · exact T.ki_bool_Table
  · exact T.ki_NoneType_Table
  · exact T.ki_list_Table
  · exact T.ki_tuple_Table
  · exact T.ki_dict_Table
/-- a table and another, or what is none -/
def sp_eq (a : Ad) : Sp2 := fun ds M Q2 _ => ∃ zs rows d, ds = [tabD a.c_Table zs rows, d] ∧ ((∃ ys rs, d = tabD a.c_Table ys rs ∧ (∀ z ∈ zs, PyData.strOk z = true) ∧ (∀ z ∈ ys, PyData.strOk z = true) ∧ Q2 (.b (decide (zs = ys ∧ rows = rs))) M) ∨ ∃ k, kdM M d = some k ∧ Q2 (.b false) M)
theorem ok_Table_o___eq__ (T : Tx K mg a) : FnOk P w K mg base CX0 3 a.f_Table_o___eq__ a.d_Table_o___eq__ ["self", "other"] (lift ⟨P, w, K⟩ (sp_eq a)) := by
  refine okD T.F_Table_o___eq__ sc_Table_o___eq__ (fun ds M Q2 E2 h => by obtain ⟨zs, rows, d, rfl, _⟩ := h; rfl) fun cdv A outer s H E G Fr ds M Q2 E2 hr h => ⟨_, (pss_one (ps_ret (pe_and (pe_callB (k_isi (K := K) rfl) rfl T.z_isinstance bt_isinstance (pa_cons (pv 1) (pa_cons (pe_glob (v := .ref a.c_Table) rfl T.gc_Table rfl) pa_nil))) (pe_and (pe_cmpR (k_eq (K := K) rfl (hu64 hr)) (k_fld (K := K) rfl (pv 0) rfl) (k_fld (K := K) rfl (pv 1) rfl) (nomark _)) (pe_one (pe_cmpR (k_eq (K := K) rfl (hu64 hr)) (k_fld (K := K) rfl (pv 0) rfl) (k_fld (K := K) rfl (pv 1) rfl) (nomark _))))))), ?_⟩
  obtain ⟨zs, rows, d, rfl, hor⟩ := h
  have cl_Table := T.cl_Table
  have na_Table_named := T.na_Table_o_named
  have na_Table_held := T.na_Table_o_held
  refine ws_start (ρ' := [some _, some _]) rfl ?_
  rcases hor with ⟨ys, rs, rfl, hz, hy, q⟩ | ⟨k, hk, q⟩
  case inr =>
    walk_at "w"
    refine wc_isC hk (kit_table T k) ?_
    walk_at "w"
    exact q
  walk_at "w"
  refine wc_isi (.own _) (tyD_obj T.eq_Table (.inl rfl)) T.kt_Table_Table ?_
  walk_at "w"
  refine wr_eqB (d := .lst (zs.map DV.s)) (e := .lst (ys.map DV.s)) (.inl rfl) (.inl rfl) (plnL_strs hz) (plnL_strs hy) (by show depL _ + 1 ≤ 64; rw [depL_strs]; decide) (by show depL _ + 1 ≤ 64; rw [depL_strs]; decide) fun b hb => ?_
  walk_at "w"
  have hb' : b = true ↔ zs = ys := hb.trans ⟨fun h => sMap_inj (by injection h), fun h => by rw [h]⟩
  refine if_b (fun e => ?_) fun e => ?_
  · have ez := hb'.mp e
    walk_at "w"
    have hd : ∀ rows : List (List Int), (DV.lst (rows.map rowD)).dep ≤ 64 := fun rows => by
      have := depL_rows (rows := rows)
      show depL _ + 1 ≤ 64
      omega
    refine wr_eqB (d := .lst (rows.map rowD)) (e := .lst (rs.map rowD)) (.inl rfl) (.inl rfl) plnL_rows plnL_rows (hd _) (hd _) fun c hc => ?_
    have hc' : c = true ↔ rows = rs := hc.trans ⟨fun h => rMap_inj (by injection h), fun h => by rw [h]⟩
    have : c = decide (zs = ys ∧ rows = rs) := by
      by_cases h : rows = rs
      · rw [hc'.mpr h, decide_eq_true ⟨ez, h⟩]
      · rw [decide_eq_false fun h' => h h'.2]
        cases c
        · rfl
        · exact absurd (hc'.mp rfl) h
    rw [this]
    exact q
  · have : decide (zs = ys ∧ rows = rs) = false := decide_eq_false fun h => by rw [hb'.mpr h.1] at e; cases e
    rw [this] at q
    exact q
theorem rMap_inj1 {x y : List Int} (h : rowD x = rowD y) : x = y := by
  injection h with h
  rw [← intsD_map x, h, intsD_map]
def sp_goes : Sp2 := fun ds M Q2 _ => ∃ cs row zs r, ds = [dlD (zipKV cs (row.map DV.i)), namesD zs, rowD r] ∧ zs.length ≤ 1000 ∧ Q2 (.b (goesB cs row zs r)) M
theorem ok_goes_with (T : Tx K mg a) : FnOk P w K mg base CX0 3 a.f_goes_with a.d_goes_with ["known", "names", "row"] (lift ⟨P, w, K⟩ (sp_goes)) := by
  refine okD T.F_goes_with sc_goes_with (fun ds M Q2 E2 h => by obtain ⟨cs, row, zs, r, rfl, _⟩ := h; rfl) fun cdv A outer s H E G Fr ds M Q2 E2 hr h => ⟨_, (pss_one (ps_ret (pe_callB (k_all (K := K) rfl rfl) rfl T.z_all bt_all (pa_cons (pe_lc (own := [("name", 3), ("value", 4)]) (g := gTup K 2 (gCons (gName 3) (gCons (gName 4) gNil))) rfl sc_goes_with.nd (pi_zip2 (K := K) rfl rfl T.z_zip (pa_cons (pv 1) (pa_cons (pv 2) pa_nil))) (blkOk_by (N := N_goes_with) (own := [("name", 3), ("value", 4)]) (sc := defScope s_goes_with) (by first | decide +kernel | kernel_rfl)) (fun _ _ _ _ _ => (k_gtup (K := K) rfl rfl (pgs_cons (pg_name (i := 3) sc_goes_with.nd rfl (Or.inl rfl)) (pgs_cons (pg_name (i := 4) sc_goes_with.nd rfl (Or.inl rfl)) pgs_nil)))) (fun _ _ _ _ _ => pts_nil) (fun _ _ _ _ _ => (pe_cmpR (k_eq (K := K) rfl (hu64 hr)) (pe_getF (W := ⟨P, w, K⟩) rfl rfl (pv 0) (pa_cons (pv 3) (pa_cons (pv 4) pa_nil))) (pv 4) (nomark _)))) pa_nil)))), ?_⟩
  obtain ⟨cs, row, zs, r, rfl, hl, q⟩ := h
  refine ws_start (ρ' := [some _, some _, some _, none, none]) rfl ?_
  walk_at "w"
  refine wi_zip2 ?_
  walk_at "w"
  refine ⟨_, _, zs.map DV.s, r.map DV.i, rfl, .inl rfl, .inr rfl, ?_⟩
  rw [zip2_row]
  refine comp_mapT (fun x : Str × Int => DV.tup [.s x.1, .i x.2]) (fun x => .b (decide ((lookI cs row x.1).getD x.2 = x.2))) (zs.zip r) [] (le_size (by rw [List.length_zip]; simp; omega)) (fun x hx F k2 hk2 => ?_) ?_
  · walk_at "w"
    refine we_getF rfl ?_
    walk_at "w"
    refine ⟨.text x.1, .i x.2, rfl, ?_⟩
    rw [val_zip, Option.getD_map]
    walk_at "w"
    rw [decV]
    exact hk2
  rw [List.nil_append]
  walk_at "w"
  refine wc_all (bs := (zs.zip r).map fun x => decide ((lookI cs row x.1).getD x.2 = x.2)) (.inl (by rw [List.map_map]; rfl)) ?_
  have e : ((zs.zip r).map fun x => decide ((lookI cs row x.1).getD x.2 = x.2)).all id = goesB cs row zs r := by unfold goesB; rw [List.all_map]; rfl
  rw [e]
  exact q
def ctabsD (C : Addr) (ts : List CR) : List DV := ts.map fun p => tabD C p.1 p.2
theorem KnC.texts {M : Mu} {d : DV} {zs : List Str} (l : LstOf M d (zs.map DV.s)) (h : zs.length ≤ 1000) (hn : ∀ z ∈ zs, nameB z = true) : KnC M d := ⟨⟨⟨.list, kd_of l⟩, fun z e => by
    subst e; rcases l with l | ⟨_, l, _⟩ <;> cases l⟩, fun es l' => by
  have := (lstM_of.mpr l).symm.trans (lstM_of.mpr l')
  cases this
  refine ⟨by simpa using h, fun e he => ?_⟩
  obtain ⟨z, hz, rfl⟩ := List.mem_map.mp he
  exact Kn.s (by have := name_len (hn z hz); omega)⟩
def sp_joined (a : Ad) : Sp2 := fun ds M Q2 E2 => ∃ dl ts, ds = [dl] ∧ LstOf M dl (ctabsD a.c_Table ts) ∧ (∀ t ∈ ts, Tab t.1 t.2) ∧ (∀ i ≤ ts.length, (joinF (ts.take i)).2.length ≤ 900) ∧ (joinF ts).2.length < 1000 ∧ (joinF ts).1.length ≤ 40 ∧ (8 < (joinF ts).1.length → E2 a.c_NoColumns [] [] M) ∧ ((joinF ts).1.length ≤ 8 → Q2 (tabD a.c_Table (joinF ts).1 (sset (joinF ts).2)) M)
theorem ok_joined (T : Tx K mg a) : FnOk P w K mg base (L2.CX P w) 15 a.f_joined a.d_joined ["tables"] (lift ⟨P, w, K⟩ (sp_joined a)) := by
  refine okDX T.F_joined sc_joined (fun ds M Q2 E2 h => by obtain ⟨dl, ts, rfl, _⟩ := h; rfl) fun cdv A outer s H E G Fr ds M Q2 E2 hr h hx => ⟨_, (pss_cons (ps_set (i := 1) sc_joined.nd rfl (Or.inr rfl) (pe_lst pa_nil)) (pss_cons (ps_set (i := 2) sc_joined.nd rfl (Or.inl rfl) (pe_lst (pa_cons (pe_tup pa_nil) pa_nil))) (pss_cons (ps_for (passes_of rfl) rfl (k_lsM (K := K) rfl (pv 0)) (pg_name (i := 3) sc_joined.nd rfl (Or.inl rfl)) (pss_cons (ps_setLc (i := 4) (own := [("name", 10)]) (g := gName 10) rfl sc_joined.nd rfl rfl (sw_true rfl rfl rfl (by decide +kernel)) (k_ls (K := K) rfl (k_fld (K := K) rfl (pv 3) rfl)) (blkOk_by (N := N_joined) (own := [("name", 10)]) (sc := defScope s_joined) (by first | decide +kernel | kernel_rfl)) (fun _ _ _ _ _ => (pg_name (i := 10) sc_joined.nd rfl (Or.inl rfl))) (fun _ _ _ _ _ => (pts_one (pt_cmpR (k_ni (K := K) rfl (hu65 hr)) (pv 10) (pv 1) rfl))) (fun _ _ _ _ _ => (pv 10))) (pss_cons (ps_set (i := 5) sc_joined.nd rfl (Or.inl rfl) (pe_lstM pa_nil)) (pss_cons (ps_for (passes_of rfl) rfl (k_ls (K := K) rfl (pv 2)) (pg_name (i := 6) sc_joined.nd rfl (Or.inl rfl)) (pss_cons (ps_set (i := 7) sc_joined.nd rfl (Or.inl rfl) (pe_dictZ (W := ⟨P, w, K⟩) rfl rfl rfl rfl rfl T.z_dict rfl T.z_zip (pa_cons (pv 1) (pa_cons (pv 6) pa_nil)))) (pss_one (ps_for (passes_of rfl) rfl (k_ls (K := K) rfl (k_fld (K := K) rfl (pv 3) rfl)) (pg_name (i := 8) sc_joined.nd rfl (Or.inl rfl)) (pss_one (ps_if (pt_val (pe_call (ok_goes_with (P := P) (w := w) (K := K) (base := base) T) (hr.mono (by decide)) rfl T.g_goes_with T.k_goes_with T.b_goes_with .nil passZ (pa_cons (pv 7) (pa_cons (k_fld (K := K) rfl (pv 3) rfl) (pa_cons (pv 8) pa_nil))))) (pss_cons (ps_set (i := 9) sc_joined.nd rfl (Or.inr rfl) (pe_dictZ (W := ⟨P, w, K⟩) rfl rfl rfl rfl rfl T.z_dict rfl T.z_zip (pa_cons (k_fld (K := K) rfl (pv 3) rfl) (pa_cons (pv 8) pa_nil)))) (pss_one (ps_expr (k_bm (K := K) rfl PySem.F.plainAttrs_list PySem.F.slot_list_append PySem.F.type_list_append mt_append (pv 5) (pa_cons (pe_op (k_addT (K := K) rfl) (pv 6) (pe_callTy (k_tup (K := K) rfl) rfl T.z_tuple bt_tuple (pa_cons (pe_lc (own := [("name", 10)]) (g := gName 10) rfl sc_joined.nd (k_ls (K := K) rfl (pv 4)) (blkOk_by (N := N_joined) (own := [("name", 10)]) (sc := defScope s_joined) (by first | decide +kernel | kernel_rfl)) (fun _ _ _ _ _ => (pg_name (i := 10) sc_joined.nd rfl (Or.inl rfl))) (fun _ _ _ _ _ => pts_nil) (fun _ _ _ _ _ => (pe_ix (ix_leaf (W := ⟨P, w, K⟩) rfl rfl) (pv 9) (pv 10) (fun _ _ => rfl)))) pa_nil))) pa_nil))))) pss_nil)))))) (pss_cons (ps_set (i := 1) sc_joined.nd rfl (Or.inr rfl) (pe_op (k_add (K := K) rfl) (pv 1) (pv 4))) (pss_one (ps_set (i := 2) sc_joined.nd rfl (Or.inl rfl) (pv 5)))))))) (pss_one (ps_ret (pe_make T.mk_Table (ok_Table_o___init__ (P := P) (w := w) (K := K) (base := base) T) (hr.mono (by decide)) rfl T.gc_Table T.b_Table_o___init__ .nil (passE (takes_of rfl rfl rfl rfl) fun _ _ _ _ h => h) (pa_cons (pv 1) (pa_cons (pv 2) pa_nil)))))))), ?_⟩
  obtain ⟨dl, ts, rfl, hl, tb, hb, h64, h40, q1, q⟩ := h
  have cl_Table := T.cl_Table
  have na_Table_named := T.na_Table_o_named
  have na_Table_held := T.na_Table_o_held
  refine ws_start (ρ' := [some _, none, none, none, none, none, none, none, none, none, none]) rfl ?_
  walk_at "w"
  refine ⟨_, hl, ?_⟩
  refine loop_VM (β := CR) [3, 4, 5, 6, 7, 8, 9, 10] (kp := fun _ _ => hl) (fun b => [some dl, some (.lst (b.1.map DV.s)), some (.lst (b.2.map rowD)), none, none, none, none, none, none, none, none]) (fun _ _ => M) (fun i b => b = joinF (ts.take i)) 0 (n := 0) (b0 := ([], [[]])) rfl rfl (fun i d m b hi hm hI => ?_) fun m b hm hI => ?_
  · obtain ⟨⟨zs, held⟩, ht, rfl⟩ := mapD_get hi
    have tbt : Tab zs held := tb _ (List.mem_of_getElem? ht)
    have hz8 : zs.length ≤ 8 := tbt.ok.1
    have hh : held.length < 1000 := tbt.few
    have jk : JOk b := by
      rw [hI]
      exact joinF_ok jok_nil fun t h => (tb t (List.mem_of_mem_take h)).ok.2.2
    have hc8 : b.1.length ≤ 40 := by rw [hI]; exact Nat.le_trans (joinF_pre ts i) h40
    have hr4 : b.2.length ≤ 900 := by rw [hI]; exact hb i (Nat.le_of_lt (List.getElem?_eq_some_iff.mp ht).1)
    obtain ⟨cs, rows⟩ := b
    simp only at jk hc8 hr4
    walk_at "w"
    refine comp_filT DV.s DV.s (fun z => !decide (z ∈ cs)) zs [] (le_size (by simp; omega)) (fun z hz F k2 hk2 => ?_) ?_
    · walk_at "w"
      refine ⟨rfl, rfl, fun h => ?_⟩
      walk_at "w"
      exact hk2 h
    rw [List.nil_append, show (zs.filter fun z => !decide (z ∈ cs)) = moreF cs zs from rfl]
    have hml : (moreF cs zs).length ≤ 8 := Nat.le_trans (List.length_filter_le _ _) hz8
    walk_at "w"
    intro ql hql
    walk_at "w"
    refine loop_K (β := List (List Int)) [6, 7, 8, 9, 10] (fun b => updM M ql (.lst (b.map rowD))) (fun j b => b = (rows.take j).flatMap (withR cs zs held)) (b0 := []) rfl (fun j d b hj hJ => ?_) fun b hJ => ?_
    · obtain ⟨row, hrow, rfl⟩ := mapD_get hj
      have hrw : row.length = cs.length := jk.wid row (List.mem_of_getElem? hrow)
      have hbl : b.length ≤ 900000 := by
        rw [hJ]
        have h1 := flat_len (f := withR cs zs held) (n := 999) (l := rows.take j) fun x _ => Nat.le_trans withR_len (by omega)
        rw [List.length_take] at h1
        omega
      walk_at "w"
      refine we_dictZ rfl ?_
      walk_at "w"
      refine ⟨_, _, cs, row.map DV.i, rfl, .inl rfl, .inr rfl, by omega, jk.nd, ?_⟩
      walk_at "w"
      refine loop_SE (β := List (List Int)) [8, 9, 10] (fun b => updM M ql (.lst (b.map rowD))) (fun l b' => b' = b ++ ((held.take l).filter (goesB cs row zs)).map fun o => extR (moreF cs zs) zs o row) (by simp) (fun l d b' hl hL => ?_) fun ρ2 b' hw hL => ?_
      · obtain ⟨o, ho, rfl⟩ := mapD_get hl
        have how : o.length = zs.length := tbt.wid o (List.mem_of_getElem? ho)
        have hbl' : b'.length ≤ 901100 := by
          rw [hL, List.length_append, List.length_map]
          have h1 := List.length_filter_le (goesB cs row zs) (held.take l)
          rw [List.length_take] at h1
          omega
        have hstep : ((held.take (l + 1)).filter (goesB cs row zs)).map (fun o => extR (moreF cs zs) zs o row) = ((held.take l).filter (goesB cs row zs)).map (fun o => extR (moreF cs zs) zs o row) ++ (if goesB cs row zs o = true then [extR (moreF cs zs) zs o row] else []) := by
          rw [take_snoc ho, List.filter_append, List.map_append]
          by_cases e : goesB cs row zs o = true <;> simp [e]
        walk_at "w"
        refine ⟨cs, row, zs, o, rfl, by omega, ?_⟩
        walk_at "w"
        refine if_b (fun e => ?_) fun e => ?_
        · walk_at "w"
          refine we_dictZ rfl ?_
          walk_at "w"
          refine ⟨_, _, zs, o.map DV.i, rfl, .inl rfl, .inr rfl, by omega, tbt.ok.2.2, ?_⟩
          walk_at "w"
          refine comp_mapT DV.s (fun z => .i ((lookI zs o z).getD 0)) (moreF cs zs) [] (le_size (by simp; omega)) (fun z hz F k2 hk2 => ?_) ?_
          · obtain ⟨v, hv⟩ := lookI_some (z := z) how (List.mem_filter.mp hz).1
            rw [hv] at hk2
            walk_at "w"
            refine wr_ixS' (by rw [val_zip, hv]; rfl) ?_
            exact hk2
          rw [List.nil_append]
          walk_at "w"
          refine wr_tupAdd (by simp; omega) ?_
          rw [show row.map DV.i ++ (moreF cs zs).map (fun z => DV.i ((lookI zs o z).getD 0)) = (extR (moreF cs zs) zs o row).map DV.i by unfold extR; rw [List.map_append, List.map_map]; rfl]
          walk_at "w"
          refine ⟨by dsimp only [wipe2, List.set], b' ++ [extR (moreF cs zs) zs o row], ?_, by rw [List.map_append]; rfl⟩
          rw [hstep, if_pos e, hL, List.append_assoc]
        · walk_at "w"
          refine ⟨by dsimp only [wipe2, List.set], b', ?_, rfl⟩
          rw [hstep, if_neg (by rw [e]; exact Bool.false_ne_true), List.append_nil]
          exact hL
      · rw [List.length_map, List.take_length] at hL
        refine ⟨?_, b', ?_, rfl⟩
        · show ((wipe2 ρ2 [8, 9, 10]).set 7 none).set 6 none = _
          rw [hw]
          dsimp only [wipe2, List.set]
        · rw [take_snoc hrow, List.flatMap_append, hL, hJ]
          simp [withR]
    · rw [List.length_map, List.take_length] at hJ
      subst hJ
      refine ws_nrmW (by dsimp only [wipe2, List.set]) ?_
      refine ws_frzL 5 rfl updM_same ?_
      rw [delM_updM hql]
      walk_at "w"
      refine ⟨0, stepJ (cs, rows) (zs, held), by dsimp only [wipe2, List.set]; rfl, Nat.zero_le _, ?_, rfl⟩
      rw [take_snoc ht, joinF_snoc, ← hI]
  · rw [ctabsD, List.length_map, List.take_length] at hI
    subst hI
    have jk : JOk (joinF ts) := joinF_ok jok_nil fun t h => (tb t h).ok.2.2
    walk_at "w"
    have hnm : ∀ z ∈ (joinF ts).1, nameB z = true := joinF_names (P := fun z => nameB z = true) (fun z hz => by cases hz) fun t h z hz => (tb t h).ok.2.1 z hz
    by_cases h8 : (joinF ts).1.length ≤ 8
    · refine we_tabR hx ?_
      walk_at "w"
      exact ⟨_, _, (joinF ts).1, (joinF ts).2, rfl, .inl rfl, .inl rfl, ⟨h8, hnm, jk.nd⟩, h64, jk.wid, q h8⟩
    · refine we_tab hx ?_
      walk_at "w"
      refine ⟨KnC.texts (.inl rfl) (by omega) hnm, KnT.rows (.inl rfl) (by omega) (fun r hr => by rw [jk.wid r hr]; omega), fun _ => q1 (by omega), fun zs ec => ?_⟩
      obtain ⟨l, ho⟩ := colsM_some ec
      rcases l with l | ⟨_, l, _⟩
      · injection l with l
        rw [← sMap_inj l] at ho
        exact absurd ho.1 h8
      · cases l
def sp_well : Sp2 := fun ds M Q2 _ => ∃ c k : Int, ds = [.i c, .i k] ∧ ∀ p, M p = none → Q2 (.r p) (updM M p (wl 0))
theorem ok__law_well (T : Tx K mg a) : FnOk P w K mg base CX0 3 a.f__law_well a.d__law_well ["_law_cell", "_law_k"] (lift ⟨P, w, K⟩ (sp_well)) := by
  refine okD T.F__law_well sc__law_well (fun ds M Q2 E2 h => by obtain ⟨c, k, rfl, _⟩ := h; rfl) fun cdv A outer s H E G Fr ds M Q2 E2 hr h => ⟨_, (pss_one (ps_ret (pe_lstM (pa_cons (pe_op op_mulA (pv 0) (pe_callTy call_intQ rfl T.z_int bt_int (pa_cons (pe_cmpR op_ge (pv 0) (pe_op op_pow pe_int pe_int) (nomark _)) pa_nil))) (pa_cons (pe_op op_mod (pe_op (k_add (K := K) rfl) (pe_op op_mod (pv 0) pe_int) (pe_op op_mulA pe_int (pv 1))) pe_int) (pa_cons pe_int pa_nil)))))), ?_⟩
  obtain ⟨c, k, rfl, q⟩ := h
  refine ws_start (ρ' := [some _, some _]) rfl ?_
  refine ws_weakR ?_
  walk_at "w"
  refine fun p hp => ⟨_, MLe.upd (.close ⟨_, _, _, rfl, ?_, ?_, Int.le_refl _, Int.le_refl _⟩), q p hp⟩
  · exact Int.emod_nonneg _ (by decide)
  · exact Int.emod_lt_of_pos _ (by decide)
theorem ok__law_draw (T : Tx K mg a) : FnOk P w K mg base CX0 3 a.f__law_draw a.d__law_draw ["_law_well_here", "_law_top"] (lift ⟨P, w, K⟩ (sp_draw)) := by
  refine okD T.F__law_draw sc__law_draw (fun ds M Q2 E2 h => by obtain ⟨p, top, n, rfl, _⟩ := h; rfl) fun cdv A outer s H E G Fr ds M Q2 E2 hr h => ⟨_, (pss_cons (ps_if (pt_cmpR op_gt (pe_ix (k_ix (K := K) rfl) (pv 0) pe_int (fun _ _ => rfl)) pe_int (nomark _)) (pss_cons (ps_set (i := 2) sc__law_draw.nd rfl (Or.inl rfl) (pe_op op_mod (pe_ix (k_ix (K := K) rfl) (pv 0) pe_int (fun _ _ => rfl)) (pv 1))) (pss_cons (ps_asg (pe_op op_fdiv (pe_ix (k_ix (K := K) rfl) (pv 0) pe_int (fun _ _ => rfl)) (pv 1)) (pg_sub (pv 0) pe_int set_list)) (pss_one (ps_ret (pv 2))))) pss_nil) (pss_cons (ps_asg (pe_op (k_add (K := K) rfl) (pe_ix (k_ix (K := K) rfl) (pv 0) pe_int (fun _ _ => rfl)) pe_int) (pg_sub (pv 0) pe_int set_list)) (pss_cons (ps_set (i := 3) sc__law_draw.nd rfl (Or.inl rfl) (pe_ix (k_ix (K := K) rfl) (pe_lst (pa_cons pe_int (pa_cons pe_int (pa_cons pe_int (pa_cons pe_int (pa_cons pe_int pa_nil)))))) (pe_op op_mod (pe_ix (k_ix (K := K) rfl) (pv 0) pe_int (fun _ _ => rfl)) pe_int) (fun _ _ => rfl))) (pss_cons (ps_set (i := 4) sc__law_draw.nd rfl (Or.inl rfl) (pe_op op_mod (pe_op op_pow (pe_op (k_add (K := K) rfl) (pe_op (k_add (K := K) rfl) (pe_ix (k_ix (K := K) rfl) (pv 0) pe_int (fun _ _ => rfl)) (pe_op op_mulA pe_int (pe_ix (k_ix (K := K) rfl) (pv 0) pe_int (fun _ _ => rfl)))) pe_int) pe_int) (pv 3))) (pss_cons (ps_set (i := 4) sc__law_draw.nd rfl (Or.inl rfl) (pe_op op_mod (pe_op op_mulA (pe_op (k_add (K := K) rfl) (pv 4) (pe_ix (k_ix (K := K) rfl) (pv 0) pe_int (fun _ _ => rfl))) (pe_op (k_add (K := K) rfl) (pe_op op_fdiv (pv 4) pe_int) pe_int)) (pv 3))) (pss_one (ps_ret (pe_op op_mod (pe_op op_fdiv (pv 4) pe_int) (pv 1))))))))), ?_⟩
  obtain ⟨p, top, n, rfl, hm, hn, ht', ht2', q⟩ := h
  refine ws_start (ρ' := [some _, some _, none, none, none]) rfl ?_
  refine ws_weakR (ws_open hm fun ds0 hds => ?_)
  obtain ⟨A0, B, C, rfl, hB, hB2, hC, hC2⟩ := hds
  walk_at "d"
  refine wr_atL (.inr ⟨p, rfl, updM_same⟩) (e := .i A0) rfl ?_
  walk_at "d"
  refine wr_I0 ?_
  refine ex_b (if_b (fun h1 => ?_) fun h1 => ?_)
  · walk_at "d"
    refine wr_atL (.inr ⟨p, rfl, updM_same⟩) (e := .i A0) rfl ?_
    walk_at "d"
    refine wr_I ht' ?_
    walk_at "d"
    refine wr_atL (.inr ⟨p, rfl, updM_same⟩) (e := .i A0) rfl ?_
    walk_at "d"
    refine wr_I ⟨ht', ht2'⟩ ?_
    walk_at "d"
    refine wset_list updM_same (j := 0) rfl ?_
    walk_at "d"
    have g0 := Int.emod_nonneg A0 (by omega : top ≠ 0)
    have g1 := Int.emod_lt_of_pos A0 ht'
    obtain ⟨r, hr'⟩ := nat_of g0
    rw [updM_upd, hr']
    exact ⟨_, MLe.upd (.close ⟨A0 / top, B, C, rfl, hB, hB2, hC, by omega⟩), q r (by omega)⟩
  · walk_at "d"
    refine wr_atL (.inr ⟨p, rfl, updM_same⟩) (e := .i C) rfl ?_
    walk_at "d"
    refine wr_addI ?_
    walk_at "d"
    refine wset_list updM_same (j := 2) rfl ?_
    rw [updM_upd]
    walk_at "d"
    refine we_lst ?_
    walk_at "d"
    refine ⟨by show 5 ≤ sizeLine; decide, ?_⟩
    walk_at "d"
    refine wr_atL (.inr ⟨p, rfl, updM_same⟩) (e := .i (C + 1)) rfl ?_
    walk_at "d"
    refine wr_I (by decide) ?_
    have key : ∃ x : Int, atI [DV.i 2147483629, .i 2147483587, .i 2147483579, .i 2147483563, .i 2147483549] ((C + 1) % 5) = some (.i x) ∧ 0 < x ∧ x ≤ 2147483629 := by
      have h0 : 0 ≤ (C + 1) % 5 := Int.emod_nonneg _ (by decide)
      have h5 : (C + 1) % 5 < 5 := Int.emod_lt_of_pos _ (by decide)
      generalize (C + 1) % 5 = t at h0 h5
      have : t = 0 ∨ t = 1 ∨ t = 2 ∨ t = 3 ∨ t = 4 := by omega
      rcases this with rfl | rfl | rfl | rfl | rfl <;> exact ⟨_, rfl, by decide, by decide⟩
    obtain ⟨x, hx1, hx2, hx3⟩ := key
    refine wr_atL (.inl rfl) hx1 ?_
    walk_at "d"
    refine wr_atL (.inr ⟨p, rfl, updM_same⟩) (e := .i B) rfl ?_
    walk_at "d"
    refine wr_atL (.inr ⟨p, rfl, updM_same⟩) (e := .i (C + 1)) rfl ?_
    refine wr_mulI (.inl ⟨by decide, by decide⟩) ?_
    refine wr_addI ?_
    walk_at "d"
    refine wr_addI ?_
    walk_at "d"
    refine wr_I ⟨by decide, by decide, by omega⟩ ?_
    walk_at "d"
    refine wr_I hx2 ?_
    walk_at "d"
    refine wr_atL (.inr ⟨p, rfl, updM_same⟩) (e := .i (C + 1)) rfl ?_
    refine wr_addI ?_
    walk_at "d"
    refine wr_I ⟨by decide, by decide⟩ ?_
    walk_at "d"
    refine wr_addI ?_
    refine wr_mulI (.inl ?_) ?_
    · have g0 := Int.emod_nonneg ((B + 6701 * (C + 1) + 3) ^ (5 : Int).toNat) (by omega : x ≠ 0)
      have g1 := Int.emod_lt_of_pos ((B + 6701 * (C + 1) + 3) ^ (5 : Int).toNat) hx2
      constructor <;> omega
    walk_at "d"
    refine wr_I hx2 ?_
    walk_at "d"
    refine wr_I ⟨by decide, by decide⟩ ?_
    walk_at "d"
    refine wr_I ht' ?_
    generalize (((B + 6701 * (C + 1) + 3) ^ (5 : Int).toNat % x + (C + 1)) * ((B + 6701 * (C + 1) + 3) ^ (5 : Int).toNat % x / 1013 + 40693) % x / 11) = A1
    have g0 := Int.emod_nonneg A1 (by omega : top ≠ 0)
    have g1 := Int.emod_lt_of_pos A1 ht'
    obtain ⟨r, hr'⟩ := nat_of g0
    rw [hr']
    exact ⟨_, MLe.upd (.close ⟨A0, B, C + 1, rfl, hB, hB2, by omega, by push_cast; omega⟩), q r (by omega)⟩
def sp_names : Sp2 := fun ds M Q2 _ => ∃ (p : Addr) (c : Int) (n : Nat), ds = [.r p, .i c] ∧ M p = some (wl n) ∧ n ≤ 100000000 ∧ 0 ≤ c ∧ c ≤ 26 ∧
  ∀ (q : Addr) (m : Nat) (zs : List Str), q ≠ p → M q = none → m ≤ n + 11 → Nms zs → zs.length = c.toNat → Q2 (.r q) (updM (updM M p (wl m)) q (.lst (zs.map DV.s)))
theorem updM_self {M : Mu} {p : Addr} {o : MO} (h : M p = some o) : updM M p o = M := by
  funext b
  by_cases e : b = p
  · subst e; rw [updM_same, h]
  · rw [updM_ne e]
theorem ok__law_names (T : Tx K mg a) : FnOk P w K mg base CX0 6 a.f__law_names a.d__law_names ["_law_well_here", "_law_count"] (lift ⟨P, w, K⟩ (sp_names)) := by
  refine okD T.F__law_names sc__law_names (fun ds M Q2 E2 h => by obtain ⟨p, c, n, rfl, _⟩ := h; rfl) fun cdv A outer s H E G Fr ds M Q2 E2 hr h => ⟨_, (pss_cons (ps_set (i := 2) sc__law_names.nd rfl (Or.inr rfl) pe_str) (pss_cons (ps_set (i := 3) sc__law_names.nd rfl (Or.inl rfl) (pe_call (ok__law_draw (P := P) (w := w) (K := K) (base := base) T) (hr.mono (by decide)) rfl T.g__law_draw T.k__law_draw T.b__law_draw .nil passZ (pa_cons (pv 0) (pa_cons pe_int pa_nil)))) (pss_cons (ps_set (i := 4) sc__law_names.nd rfl (Or.inl rfl) (pe_ix (k_ix (K := K) rfl) (pe_lst (pa_cons pe_int (pa_cons pe_int (pa_cons pe_int (pa_cons pe_int (pa_cons pe_int (pa_cons pe_int (pa_cons pe_int (pa_cons pe_int pa_nil))))))))) (pe_call (ok__law_draw (P := P) (w := w) (K := K) (base := base) T) (hr.mono (by decide)) rfl T.g__law_draw T.k__law_draw T.b__law_draw .nil passZ (pa_cons (pv 0) (pa_cons pe_int pa_nil))) (fun _ _ => rfl))) (pss_cons (ps_set (i := 5) sc__law_names.nd rfl (Or.inl rfl) (k_bm (K := K) rfl PySem.F.plainAttrs_str PySem.F.slot_str_join PySem.F.type_str_join (k_join (K := K) rfl) pe_str (pa_cons (pe_lc (own := [("_law_k", 9)]) (g := gName 9) rfl sc__law_names.nd (pi_range1 rfl T.z_range (pa_cons pe_int pa_nil)) (blkOk_by (N := N__law_names) (own := [("_law_k", 9)]) (sc := defScope s__law_names) (by first | decide +kernel | kernel_rfl)) (fun _ _ _ _ _ => (pg_name (i := 9) sc__law_names.nd rfl (Or.inl rfl))) (fun _ _ _ _ _ => pts_nil) (fun _ _ _ _ _ => (pe_ix (k_ix (K := K) rfl) (pv 2) (pe_call (ok__law_draw (P := P) (w := w) (K := K) (base := base) T) (hr.mono (by decide)) rfl T.g__law_draw T.k__law_draw T.b__law_draw .nil passZ (pa_cons (pv 0) (pa_cons pe_int pa_nil))) (fun _ _ => rfl)))) pa_nil))) (pss_cons (ps_set (i := 6) sc__law_names.nd rfl (Or.inl rfl) (pe_call (ok__law_draw (P := P) (w := w) (K := K) (base := base) T) (hr.mono (by decide)) rfl T.g__law_draw T.k__law_draw T.b__law_draw .nil passZ (pa_cons (pv 0) (pa_cons pe_int pa_nil)))) (pss_cons (ps_set (i := 7) sc__law_names.nd rfl (Or.inl rfl) (pe_call (ok__law_draw (P := P) (w := w) (K := K) (base := base) T) (hr.mono (by decide)) rfl T.g__law_draw T.k__law_draw T.b__law_draw .nil passZ (pa_cons (pv 0) (pa_cons (pe_op op_sub pe_int (pv 6)) pa_nil)))) (pss_cons (ps_set (i := 8) sc__law_names.nd rfl (Or.inl rfl) (pe_lstM pa_nil)) (pss_cons (ps_for PassesOwn.never rfl (pi_range1 rfl T.z_range (pa_cons (pv 1) pa_nil)) (pg_name (i := 9) sc__law_names.nd rfl (Or.inl rfl)) (pss_cons (ps_set (i := 10) sc__law_names.nd rfl (Or.inl rfl) (pe_ix (k_ix (K := K) rfl) (pv 2) (pe_op op_mod (pe_op (k_add (K := K) rfl) (pv 3) (pe_op op_mulA (pv 4) (pv 9))) pe_int) (fun _ _ => rfl))) (pss_one (ps_expr (k_bm (K := K) rfl PySem.F.plainAttrs_list PySem.F.slot_list_append PySem.F.type_list_append mt_append (pv 8) (pa_cons (pe_op (k_add (K := K) rfl) (pe_op (k_add (K := K) rfl) (pe_slice (k_sl (K := K) rfl) (pv 5) po_none (po_some (pv 6))) (pv 10)) (pe_slice (k_sl (K := K) rfl) (pv 5) (po_some (pv 6)) (po_some (pe_op (k_add (K := K) rfl) (pv 6) (pv 7))))) pa_nil)))))) (pss_one (ps_ret (pv 8))))))))))), ?_⟩
  obtain ⟨p, c, n, rfl, hm, hn, hc0, hc26, q⟩ := h
  refine ws_start (ρ' := [some _, some _, none, none, none, none, none, none, none, none, none]) rfl ?_
  obtain ⟨count, rfl⟩ := nat_of hc0
  have hc : count ≤ 26 := by omega
  rw [← updM_self hm]
  walk_at "w"
  intro b hb
  walk_at "w"
  intro j2 hj2
  obtain ⟨ap, ha1, ha2⟩ := aparts (n := j2) (by omega)
  refine wr_atL (.inl rfl) ha1 ?_
  walk_at "w"
  refine comp_W (fun c => DV.s ⟨#[c]⟩) (fun _ c => isL c) 1 (by decide) (fun i F hi => ?_) fun cs m hl hcs hm => ?_
  · walk_at "w"
    intro r hr
    refine wr_atS (by rw [letters_len]; decide) (letters_get (by omega)) ?_
    exact ⟨r + 97, _, rfl, ⟨by omega, by omega⟩, Nat.le_refl _, rfl⟩
  replace hcs : ∀ c ∈ cs, isL c := fun c hc => by
    obtain ⟨i, hi, rfl⟩ := List.getElem_of_mem hc
    exact hcs i _ (List.getElem?_eq_getElem hi)
  replace hl : cs.length = 7 := hl
  replace hm : m ≤ n + 9 := by omega
  walk_at "w"
  have e0 : cs.map (fun c => DV.s ⟨#[c]⟩) = (cs.map fun c => (⟨#[c]⟩ : Str)).map DV.s := by rw [List.map_map]; rfl
  refine wm_join (ys := cs.map fun c => (⟨#[c]⟩ : Str)) (.inl (by rw [e0])) ?_ ?_
  · have : ((cs.map fun c => (⟨#[c]⟩ : Str)).map (·.length)).sum = 7 := by
      rw [List.map_map, ← hl]
      clear hl hcs e0
      induction cs with
      | nil => rfl
      | cons c cs ih =>
        rw [List.map_cons, List.sum_cons, ih]
        show 1 + cs.length = cs.length + 1
        omega
    rw [this, List.length_map, hl]
    decide
  have e1 : Txt.join (Str.ofString "") (cs.map fun c => (⟨#[c]⟩ : Str)) = ⟨cs.toArray⟩ := join_chars cs
  rw [e1]
  walk_at "w"
  intro spot hs
  walk_at "w"
  intro more hmo
  walk_at "w"
  intro q' hq'
  obtain ⟨nqp, hq0⟩ := updM_none hq'
  walk_at "w"
  refine loop_K [9, 10] (fun j => updM (updM M p (wl (m + 1 + 1))) q' (.lst ((nmsL cs spot more b ap j).map DV.s))) (fun i j => j = i) (b0 := 0) rfl (fun i d j hi hI => ?_) fun j hI => ?_
  · subst hI
    obtain ⟨hi1, rfl⟩ := rangeD_get hi
    replace hi1 : j < count := by simpa using hi1
    have hap : ap ≤ 17 := by
      simp only [List.mem_cons, List.not_mem_nil, or_false] at ha2
      omega
    walk_at "w"
    have e2 : (((b : Nat) : Int) + ((ap : Nat) : Int) * ((j : Nat) : Int)) % 26 = (((b + ap * j) % 26 : Nat) : Int) := by push_cast; rfl
    rw [e2]
    refine wr_atS (by rw [letters_len]; decide) (letters_get (Nat.mod_lt _ (by decide))) ?_
    walk_at "w"
    refine wl_AS (by rw [str_len, hl]; decide) ?_
    rw [cut_to]
    walk_at "w"
    have s1 : (⟨#[(b + ap * j) % 26 + 97]⟩ : Str) = ⟨[ltr b ap j].toArray⟩ := rfl
    have z7 : 100 ≤ sizeLine := by decide
    rw [s1]
    have hsp : spot ≤ 7 := by omega
    have hmo : more ≤ 7 - spot := by omega
    have l1 : (cs.take spot).length = spot := by rw [List.length_take, hl]; omega
    have l2 : ((cs.drop spot).take more).length = more := by rw [List.length_take, List.length_drop, hl]; omega
    refine wr_addS (by rw [str_len, str_len, l1]; exact Nat.le_trans (by simp; omega) z7) ?_
    rw [str_app]
    walk_at "w"
    refine wl_AS (by rw [str_len, hl]; decide) ?_
    rw [cut_mid _ _ _ (by rw [hl]; omega)]
    refine wr_addS (by rw [str_len, str_len, List.length_append, l1, l2]; exact Nat.le_trans (by simp; omega) z7) ?_
    rw [str_app]
    walk_at "d"
    refine wm_app1 (by rw [List.length_map, nmsL_len]; omega) ?_
    refine ⟨by dsimp only [wipe2, List.set], j + 1, rfl, ?_⟩
    rw [nmsL_succ, List.map_append]
    rfl
  · subst hI
    walk_at "w"
    rw [rangeD_len]
    exact q q' _ _ nqp hq0 (by omega) (nmsL_ok hl hcs (by omega) (by omega) ha2 (by simpa using hc)) (by rw [nmsL_len])
theorem names1 {M : Mu} {Q2 : DQ} {E2 : XK2} {p : Addr} {c : Int} {n : Nat} (hn : n ≤ 100000000) (h0 : 0 ≤ c) (h1 : c ≤ 26)
    (h : ∀ (q : Addr) (m : Nat) (zs : List Str), q ≠ p → M q = none → m ≤ n + 11 → Nms zs → zs.length = c.toNat → Q2 (.r q) (updM (updM M p (wl m)) q (.lst (zs.map DV.s)))) : sp_names [.r p, .i c] (updM M p (wl n)) Q2 E2 :=
  ⟨p, c, n, rfl, updM_same, hn, h0, h1, fun q m zs h1 h2 h3 h4 h5 => by
    rw [updM_upd]
    exact h q m zs h1 (by rw [updM_ne h1] at h2; exact h2) h3 h4 h5⟩
def sp_base : Sp2 := fun ds M Q2 _ => ∃ (p : Addr) (n : Nat), ds = [.r p] ∧ M p = some (wl n) ∧ n ≤ 100000000 ∧ ∀ v : Int, Q2 (.i v) (updM M p (wl (n + 4)))
theorem base1 {M : Mu} {Q2 : DQ} {E2 : XK2} {p : Addr} {n : Nat} (hn : n ≤ 100000000) (h : ∀ v : Int, Q2 (.i v) (updM M p (wl (n + 4)))) : sp_base [.r p] (updM M p (wl n)) Q2 E2 := ⟨p, n, rfl, updM_same, hn, fun v => by rw [updM_upd]; exact h v⟩
theorem ok__law_base (T : Tx K mg a) : FnOk P w K mg base CX0 6 a.f__law_base a.d__law_base ["_law_well_here"] (lift ⟨P, w, K⟩ (sp_base)) := by
  refine okD T.F__law_base sc__law_base (fun ds M Q2 E2 h => by obtain ⟨p, n, rfl, _⟩ := h; rfl) fun cdv A outer s H E G Fr ds M Q2 E2 hr h => ⟨_, (pss_cons (ps_set (i := 1) sc__law_base.nd rfl (Or.inl rfl) (pe_op (k_add (K := K) rfl) (pe_op (k_add (K := K) rfl) (pe_op op_mulA (pe_call (ok__law_draw (P := P) (w := w) (K := K) (base := base) T) (hr.mono (by decide)) rfl T.g__law_draw T.k__law_draw T.b__law_draw .nil passZ (pa_cons (pv 0) (pa_cons (pe_op op_pow pe_int pe_int) pa_nil))) (pe_op op_pow pe_int pe_int)) (pe_op op_mulA (pe_call (ok__law_draw (P := P) (w := w) (K := K) (base := base) T) (hr.mono (by decide)) rfl T.g__law_draw T.k__law_draw T.b__law_draw .nil passZ (pa_cons (pv 0) (pa_cons (pe_op op_pow pe_int pe_int) pa_nil))) (pe_op op_pow pe_int pe_int))) (pe_call (ok__law_draw (P := P) (w := w) (K := K) (base := base) T) (hr.mono (by decide)) rfl T.g__law_draw T.k__law_draw T.b__law_draw .nil passZ (pa_cons (pv 0) (pa_cons (pe_op op_pow pe_int pe_int) pa_nil))))) (pss_one (ps_ret (pe_ix (k_ix (K := K) rfl) (pe_lst (pa_cons pe_int (pa_cons (pe_un un_neg pe_int) (pa_cons (pv 1) (pa_cons (pe_op op_sub pe_int (pv 1)) pa_nil))))) (pe_call (ok__law_draw (P := P) (w := w) (K := K) (base := base) T) (hr.mono (by decide)) rfl T.g__law_draw T.k__law_draw T.b__law_draw .nil passZ (pa_cons (pv 0) (pa_cons pe_int pa_nil))) (fun _ _ => rfl))))), ?_⟩
  obtain ⟨p, n, rfl, hm, hn, q⟩ := h
  refine ws_start (ρ' := [some _, none]) rfl ?_
  rw [← updM_self hm]
  walk_at "w"
  intro r1 h1
  walk_at "w"
  intro r2 h2
  walk_at "w"
  intro r3 h3
  walk_at "w"
  intro r4 h4
  refine wr_pickI (.inl rfl) (by omega) (by simpa using h4) fun e he => ?_
  obtain ⟨v, rfl⟩ : ∃ v : Int, e = .i v := by
    simp only [List.mem_cons, List.not_mem_nil, or_false] at he
    rcases he with rfl | rfl | rfl | rfl <;> exact ⟨_, rfl⟩
  exact q v
theorem Tab.tok {t : CR} (tb : Tab t.1 t.2) : TOk t := ⟨tb.ok.2.2, tb.wid, Rising.nodup tb.ris⟩
theorem getD_mapV (v : Str → Int) : ∀ {zs : List Str} {z : Str}, z ∈ zs → (zs.map v).getD (posS z zs) 0 = v z
  | [], z, h => by cases h
  | c :: cs, z, h => by
    rw [List.map_cons]
    unfold posS
    by_cases e : c = z
    · rw [if_pos e, e]
      rfl
    · rw [if_neg e]
      exact getD_mapV v ((List.mem_cons.mp h).resolve_left (Ne.symm e))
def whF (ts : List CR) : CR := ((joinF ts).1, sset (joinF ts).2)
theorem wh_len {ts : List CR} (h : prF ts ≤ 900) : (joinF ts).2.length < 1000 := by
  have := joinF_rows ts
  omega
theorem joA {ts : List CR} {M : Mu} {Q2 : DQ} {E2 : XK2} (h : ∀ t ∈ ts, Tab t.1 t.2) (hb : prF ts ≤ 900) (h40 : (joinF ts).1.length ≤ 40) (h8 : (joinF ts).1.length ≤ 8) (q : Q2 (tabD a.c_Table (whF ts).1 (whF ts).2) M) : sp_joined a [.lst (ctabsD a.c_Table ts)] M Q2 E2 :=
  ⟨_, ts, rfl, .inl rfl, h, fun i hi => Nat.le_trans (joinF_rows _) (Nat.le_trans (prF_take ts i) hb), wh_len hb, h40, fun h => absurd h (by omega), fun _ => q⟩
theorem prF_cons (t : CR) (ts : List CR) : prF (t :: ts) = max 1 t.2.length * prF ts := by
  show ts.foldl (fun n t => n * max 1 t.2.length) (1 * max 1 t.2.length) = _
  rw [prF_fold, Nat.one_mul]
theorem prF_app : ∀ (ts us : List CR), prF (ts ++ us) = prF ts * prF us
  | [], us => by rw [List.nil_append, show prF [] = 1 from rfl, Nat.one_mul]
  | t :: ts, us => by rw [List.cons_append, prF_cons, prF_cons, prF_app ts us, Nat.mul_assoc]
theorem prF_pow {k : Nat} (hk : 1 ≤ k) : ∀ (ts : List CR), (∀ t ∈ ts, t.2.length ≤ k) → prF ts ≤ k ^ ts.length
  | [], _ => Nat.le_refl _
  | t :: ts, h => by
    rw [prF_cons, List.length_cons, Nat.pow_succ, Nat.mul_comm (k ^ _)]
    have := h t List.mem_cons_self
    exact Nat.mul_le_mul (by omega) (prF_pow hk ts fun u hu => h u (List.mem_cons_of_mem _ hu))
theorem at2 {M : Mu} {q r : Addr} {x y : MO} (h : q ≠ r) : updM (updM M q x) r y q = some x := by rw [updM_ne h, updM_same]
theorem erase_perm {α : Type} : ∀ {l : List α} {k : Nat} {x : α}, l[k]? = some x → (x :: l.eraseIdx k).Perm l
  | [], k, x, h => by simp at h
  | a :: l, 0, x, h => by
    simp at h
    subst h
    exact List.Perm.refl _
  | a :: l, k + 1, x, h => by
    simp only [List.eraseIdx]
    exact (List.Perm.swap a x _).trans ((erase_perm (l := l) (k := k) (by simpa using h)).cons a)
def sp_picked : Sp2 := fun ds M Q2 _ => ∃ (p : Addr) (n : Nat) (zs : List Str) (M0 : Mu), ds = [.r p, .lst (zs.map DV.s), .i 4] ∧ M = updM M0 p (wl n) ∧ n ≤ 1000000 ∧ zs.length ≤ 1000 ∧
  ∀ (m : Nat) (ys rest : List Str), m ≤ n + 5 → ys.length ≤ 4 → (ys ++ rest).Perm zs → Q2 (.lst (ys.map DV.s)) (updM M0 p (wl m))
theorem ok__law_picked (T : Tx K mg a) : FnOk P w K mg base CX0 6 a.f__law_picked a.d__law_picked ["_law_well_here", "_law_names_here", "_law_most"] (lift ⟨P, w, K⟩ (sp_picked)) := by
  refine okD T.F__law_picked sc__law_picked (fun ds M Q2 E2 h => by obtain ⟨p, n, zs, M0, rfl, _⟩ := h; rfl) fun cdv A outer s H E G Fr ds M Q2 E2 hr h => ⟨_, (pss_cons (ps_set (i := 3) sc__law_picked.nd rfl (Or.inl rfl) (pe_callTy (k_listM (K := K) rfl) rfl T.z_list bt_list (pa_cons (pv 1) pa_nil))) (pss_cons (ps_set (i := 4) sc__law_picked.nd rfl (Or.inl rfl) (pe_lstM pa_nil)) (pss_cons (ps_for PassesOwn.never rfl (pi_range1 rfl T.z_range (pa_cons (pe_call (ok__law_draw (P := P) (w := w) (K := K) (base := base) T) (hr.mono (by decide)) rfl T.g__law_draw T.k__law_draw T.b__law_draw .nil passZ (pa_cons (pv 0) (pa_cons (pe_op (k_add (K := K) rfl) (pe_callB (call_min2 rfl) rfl T.z_min bt_min (pa_cons (pe_callB (k_len (K := K) rfl) rfl T.z_len bt_len (pa_cons (pv 1) pa_nil)) (pa_cons (pv 2) pa_nil))) pe_int) pa_nil))) pa_nil)) (pg_name (i := 5) sc__law_picked.nd rfl (Or.inl rfl)) (pss_one (ps_expr (k_bm (K := K) rfl PySem.F.plainAttrs_list PySem.F.slot_list_append PySem.F.type_list_append mt_append (pv 4) (pa_cons (k_bm (K := K) rfl PySem.F.plainAttrs_list PySem.F.slot_list_pop PySem.F.type_list_pop mt_popAt (pv 3) (pa_cons (pe_call (ok__law_draw (P := P) (w := w) (K := K) (base := base) T) (hr.mono (by decide)) rfl T.g__law_draw T.k__law_draw T.b__law_draw .nil passZ (pa_cons (pv 0) (pa_cons (pe_callB (k_len (K := K) rfl) rfl T.z_len bt_len (pa_cons (pv 3) pa_nil)) pa_nil))) pa_nil)) pa_nil))))) (pss_one (ps_ret (pv 4)))))), ?_⟩
  obtain ⟨p, n, zs, M0, rfl, rfl, hn, hl, q⟩ := h
  refine ws_start (ρ' := [some _, some _, some _, none, none, none]) rfl ?_
  refine ws_weakR ?_
  walk_at "w"
  intro q1 hq1
  obtain ⟨n1, h1⟩ := updM_none hq1
  walk_at "w"
  intro q2 hq2
  obtain ⟨n21, hq2'⟩ := updM_none hq2
  obtain ⟨n2, h2⟩ := updM_none hq2'
  walk_at "w"
  refine wc_min ?_
  walk_at "w"
  intro many hmany
  have hm4 : many ≤ 4 ∧ many ≤ zs.length := by split at hmany <;> omega
  walk_at "w"
  refine loop_S (β := List Str × List Str) [5] (fun m b => updM (updM (updM M0 p (wl m)) q1 (.lst (b.1.map DV.s))) q2 (.lst (b.2.map DV.s))) (fun i b => b.2.length = i ∧ (b.2 ++ b.1).Perm zs) 1 (b0 := (zs, [])) ⟨rfl, List.Perm.refl _⟩ (fun i d m b hi hm hI => ?_) fun m b hm hI => ?_
  · obtain ⟨left, found⟩ := b
    obtain ⟨hI1, hI2⟩ := hI
    simp only at hI1 hI2 ⊢
    obtain ⟨hi1, rfl⟩ := rangeD_get hi
    have hlen := hI2.length_eq
    rw [List.length_append] at hlen
    replace hi1 : i < many := by simpa using hi1
    walk_at "w"
    refine ⟨tyOk_lst (.inr ⟨q1, rfl, at2 (Ne.symm n21)⟩), ?_⟩
    walk_at "w"
    refine wc_lenQ (.inl (.inr ⟨q1, rfl, at2 (Ne.symm n21)⟩)) ?_
    rw [List.length_map]
    walk_at "w"
    intro r hr
    have hrl : r < left.length := by omega
    walk_at "w"
    refine wm_popAt (e := .s left[r]) (k := r) (at2 (Ne.symm n21)) (by omega) (by omega) (by rw [List.length_map]; exact seqIx_n hrl) (by rw [List.getElem?_map, List.getElem?_eq_getElem hrl]; rfl) ?_
    rw [updM_swap n21, erase_mp]
    walk_at "w"
    refine ⟨by dsimp only [wipe2, List.set], m + 1, (left.eraseIdx r, found ++ [left[r]]), Nat.le_refl _, ⟨by simp [hI1], ?_⟩, by simp⟩
    show (found ++ [left[r]] ++ left.eraseIdx r).Perm zs
    rw [List.append_assoc]
    exact ((erase_perm (List.getElem?_eq_getElem hrl)).append_left found).trans hI2
  · obtain ⟨left, found⟩ := b
    obtain ⟨hI1, hI2⟩ := hI
    simp only at hI1 hI2 ⊢
    rw [rangeD_len] at hI1 hm
    refine ws_ret (we_frz ?_)
    walk_at "w"
    refine ⟨q2, _, rfl, updM_same, trivial, ?_⟩
    rw [delM_updM (by rw [updM_ne n21, updM_ne n2]; exact h2)]
    simp at hm hI1
    exact ⟨_, MLe.dropN (by rw [updM_ne n1]; exact h1), q m found left (by omega) (by omega) hI2⟩
def madeD (t : List Str × List (List Int)) : DV := .tup [.lst (t.1.map DV.s), .lst (t.2.map rowD)]
structure MOk (zs : List Str) (bs : Int) (t : List Str × List (List Int)) : Prop where
  l4 : t.1.length ≤ 4
  nm : Nms t.1
  sub : ∀ y ∈ t.1, y ∈ zs
  l5 : t.2.length ≤ 5
  wid : ∀ r ∈ t.2, r.length = t.1.length
  val : ∀ r ∈ t.2, ∀ v ∈ r, bs ≤ v ∧ v < bs + 3
def sp_made : Sp2 := fun ds M Q2 _ => ∃ (p : Addr) (n : Nat) (zs : List Str) (bs : Int) (M0 : Mu), ds = [.r p, .lst (zs.map DV.s), .i bs] ∧ M = updM M0 p (wl n) ∧ n ≤ 100000 ∧ zs.length ≤ 8 ∧ Nms zs ∧
  ∀ (m : Nat) (ms : List (List Str × List (List Int))), m ≤ n + 200 → ms.length ≤ 4 → (∀ t ∈ ms, MOk zs bs t) → Q2 (.lst (ms.map madeD)) (updM M0 p (wl m))
theorem ok__law_made (T : Tx K mg a) : FnOk P w K mg base CX0 9 a.f__law_made a.d__law_made ["_law_well_here", "_law_names_here", "_law_base_here"] (lift ⟨P, w, K⟩ (sp_made)) := by
  refine okD T.F__law_made sc__law_made (fun ds M Q2 E2 h => by obtain ⟨p, n, zs, bs, M0, rfl, _⟩ := h; rfl) fun cdv A outer s H E G Fr ds M Q2 E2 hr h => ⟨_, (pss_cons (ps_set (i := 3) sc__law_made.nd rfl (Or.inl rfl) (pe_lstM pa_nil)) (pss_cons (ps_for PassesOwn.never rfl (pi_range1 rfl T.z_range (pa_cons (pe_call (ok__law_draw (P := P) (w := w) (K := K) (base := base) T) (hr.mono (by decide)) rfl T.g__law_draw T.k__law_draw T.b__law_draw .nil passZ (pa_cons (pv 0) (pa_cons pe_int pa_nil))) pa_nil)) (pg_name (i := 4) sc__law_made.nd rfl (Or.inl rfl)) (pss_cons (ps_set (i := 5) sc__law_made.nd rfl (Or.inr rfl) (pe_call (ok__law_picked (P := P) (w := w) (K := K) (base := base) T) (hr.mono (by decide)) rfl T.g__law_picked T.k__law_picked T.b__law_picked .nil passZ (pa_cons (pv 0) (pa_cons (pv 1) (pa_cons pe_int pa_nil))))) (pss_cons (ps_setLc (i := 6) (own := [("_law_j", 7)]) (g := gName 7) rfl sc__law_made.nd rfl rfl (sw_true rfl rfl rfl (by decide +kernel)) (pi_range1 rfl T.z_range (pa_cons (pe_call (ok__law_draw (P := P) (w := w) (K := K) (base := base) T) (hr.mono (by decide)) rfl T.g__law_draw T.k__law_draw T.b__law_draw .nil passZ (pa_cons (pv 0) (pa_cons pe_int pa_nil))) pa_nil)) (blkOk_by (N := N__law_made) (own := [("_law_j", 7)]) (sc := defScope s__law_made) (by first | decide +kernel | kernel_rfl)) (fun _ _ _ _ _ => (pg_name (i := 7) sc__law_made.nd rfl (Or.inl rfl))) (fun _ _ _ _ _ => pts_nil) (fun _ _ _ _ _ => (pe_callTy (k_tup (K := K) rfl) rfl T.z_tuple bt_tuple (pa_cons (pe_lc (own := [("_law_name", 8)]) (g := gName 8) rfl sc__law_made.nd (k_ls (K := K) rfl (pv 5)) (by first | exact blkOk_by (by decide +kernel) | exact blkOk_by (by kernel_rfl)) (fun _ _ _ _ _ => (pg_name (i := 8) sc__law_made.nd rfl (Or.inl rfl))) (fun _ _ _ _ _ => pts_nil) (fun _ _ _ _ _ => (pe_op (k_add (K := K) rfl) (pv 2) (pe_call (ok__law_draw (P := P) (w := w) (K := K) (base := base) T) (hr.mono (by decide)) rfl T.g__law_draw T.k__law_draw T.b__law_draw .nil passZ (pa_cons (pv 0) (pa_cons pe_int pa_nil)))))) pa_nil)))) (pss_one (ps_expr (k_bm (K := K) rfl PySem.F.plainAttrs_list PySem.F.slot_list_append PySem.F.type_list_append mt_append (pv 3) (pa_cons (pe_tup (pa_cons (pv 5) (pa_cons (pv 6) pa_nil))) pa_nil))))))) (pss_one (ps_ret (pv 3))))), ?_⟩
  obtain ⟨p, n, zs, bs, M0, rfl, rfl, hn, hz8, hz, q⟩ := h
  refine ws_start (ρ' := [some _, some _, some _, none, none, none, none, none, none]) rfl ?_
  walk_at "w"
  intro qf hqf
  obtain ⟨nf, hqf0⟩ := updM_none hqf
  walk_at "w"
  intro many hmany
  walk_at "w"
  refine loop_S (β := List (List Str × List (List Int))) [4, 5, 6, 7, 8] (fun m acc => updM (updM M0 p (wl m)) qf (.lst (acc.map madeD))) (fun i acc => acc.length = i ∧ ∀ t ∈ acc, MOk zs bs t) 40 (b0 := []) ⟨rfl, fun r hr => by cases hr⟩ (fun i d m acc hi hm hI => ?_) fun m acc hm hI => ?_
  · obtain ⟨hal, hok⟩ := hI
    obtain ⟨hi2, hid⟩ := rangeD_get hi
    subst hid
    walk_at "w"
    refine ⟨p, m, zs, updM M0 qf (.lst (acc.map madeD)), rfl, updM_comm nf, by omega, by omega, fun m1 ys rest hm1 hy4 hper => ?_⟩
    have hyz : ∀ y ∈ ys, y ∈ zs := fun y hy => hper.mem_iff.mp (List.mem_append_left _ hy)
    have hyn : Nms ys := { ok := fun y hy => hz.ok y (hyz y hy), nm := fun y hy => hz.nm y (hyz y hy), nd := (List.nodup_append.mp (hper.nodup_iff.mpr hz.nd)).1 }
    walk_at "w"
    intro lines hlines
    walk_at "w"
    refine comp_W (α := List Int) rowD (fun _ r => r.length = ys.length ∧ ∀ v ∈ r, bs ≤ v ∧ v < bs + 3) 4 (by omega) (fun j F hj => ?_) fun rows m8 hrl hrw hm8 => ?_
    · walk_at "w"
      refine comp_S (α := Int) (fun n => updM (updM M0 qf (.lst (acc.map madeD))) p (wl n)) wl_le DV.i (fun _ v => bs ≤ v ∧ v < bs + 3) 1 (by simp; omega) (fun j' d' F' hj' hjl => ?_) fun line m2 hll hlv hm2 => ?_
      · obtain ⟨z, _, rfl⟩ := mapD_get hj'
        rw [List.length_map] at hjl
        walk_at "w"
        intro r hr
        walk_at "w"
        exact ⟨bs + (r : Nat), _, rfl, by omega, Nat.le_refl _, rfl⟩
      · rw [List.length_map] at hll hm2
        walk_at "w"
        refine ⟨line, m2, rfl, ⟨hll, fun v hv => ?_⟩, by omega, rfl⟩
        obtain ⟨j, hj, rfl⟩ := List.getElem_of_mem hv
        exact hlv j _ (List.getElem?_eq_getElem hj)
    rw [← updM_comm nf]
    have hrw' : ∀ r ∈ rows, r.length = ys.length ∧ ∀ v ∈ r, bs ≤ v ∧ v < bs + 3 := fun r hr => by
      obtain ⟨j, hj, rfl⟩ := List.getElem_of_mem hr
      exact hrw j _ (List.getElem?_eq_getElem hj)
    walk_at "w"
    refine ⟨by dsimp only [wipe2, List.set], m8, acc ++ [(ys, rows)], by omega, ⟨by rw [List.length_append, hal]; rfl, fun t ht => ?_⟩, by rw [List.map_append]; rfl⟩
    rcases List.mem_append.mp ht with h | h
    · exact hok t h
    · rw [List.mem_singleton.mp h]
      exact ⟨hy4, hyn, hyz, by show rows.length ≤ 5; omega, fun r hr => (hrw' r hr).1, fun r hr => (hrw' r hr).2⟩
  · rw [rangeD_len] at hm hI
    obtain ⟨hal, hok⟩ := hI
    refine ws_ret (we_frz ?_)
    walk_at "w"
    refine ⟨qf, _, rfl, updM_same, trivial, ?_⟩
    rw [delM_updM (by rw [updM_ne nf]; exact hqf0)]
    exact q m acc (by omega) (by omega) hok
/-- all rows of n values, each one of three, rising -/
def allR (bs : Int) : Nat → List (List Int)
  | 0 => [[]]
  | n + 1 => (allR bs n).flatMap fun l => [l ++ [bs + 0], l ++ [bs + 1], l ++ [bs + 2]]
theorem allR_len (bs : Int) : ∀ n, (allR bs n).length = 3 ^ n
  | 0 => rfl
  | n + 1 => by
    have : ∀ l : List (List Int), (l.flatMap fun l => [l ++ [bs + 0], l ++ [bs + 1], l ++ [bs + 2]]).length = l.length * 3 := fun l => by
      induction l with
      | nil => rfl
      | cons x l ih => rw [List.flatMap_cons, List.length_append, ih]; simp; omega
    rw [allR, this, allR_len bs n, Nat.pow_succ]
theorem allR_mem (bs : Int) : ∀ n (r : List Int), r ∈ allR bs n ↔ r.length = n ∧ ∀ v ∈ r, bs ≤ v ∧ v < bs + 3
  | 0, r => by
    rw [allR, List.mem_singleton]
    exact ⟨fun h => by rw [h]; exact ⟨rfl, fun v hv => by cases hv⟩, fun h => List.length_eq_zero_iff.mp h.1⟩
  | n + 1, r => by
    rw [allR, List.mem_flatMap]
    constructor
    · rintro ⟨l, hl, hr⟩
      obtain ⟨h1, h2⟩ := (allR_mem bs n l).mp hl
      simp only [List.mem_cons, List.not_mem_nil, or_false] at hr
      rcases hr with rfl | rfl | rfl <;>
      · refine ⟨by simp [h1], fun v hv => ?_⟩
        rcases List.mem_append.mp hv with h | h
        · exact h2 v h
        · rw [List.mem_singleton.mp h]; omega
    · rintro ⟨h1, h2⟩
      have hne : r ≠ [] := fun e => by rw [e] at h1; cases h1
      have hd := List.dropLast_concat_getLast hne
      have hv := h2 _ (List.getLast_mem hne)
      refine ⟨r.dropLast, (allR_mem bs n _).mpr ⟨by rw [List.length_dropLast]; omega, fun v hv => h2 v ((List.dropLast_sublist r).subset hv)⟩, ?_⟩
      generalize r.getLast hne = x at hd hv
      rw [← hd]
      have : x = bs + 0 ∨ x = bs + 1 ∨ x = bs + 2 := by omega
      rcases this with rfl | rfl | rfl <;> simp
def sp_all : Sp2 := fun ds M Q2 _ => ∃ (bs : Int) (n : Nat), ds = [.i bs, .i (n : Nat)] ∧ n ≤ 5 ∧ Q2 (.lst ((allR bs n).map rowD)) M
theorem ok__law_all (T : Tx K mg a) : FnOk P w K mg base CX0 3 a.f__law_all a.d__law_all ["_law_base_here", "_law_many"] (lift ⟨P, w, K⟩ (sp_all)) := by
  refine okD T.F__law_all sc__law_all (fun ds M Q2 E2 h => by obtain ⟨bs, n, rfl, _⟩ := h; rfl) fun cdv A outer s H E G Fr ds M Q2 E2 hr h => ⟨_, (pss_cons (ps_set (i := 2) sc__law_all.nd rfl (Or.inl rfl) (pe_lst (pa_cons (pe_tup pa_nil) pa_nil))) (pss_cons (ps_for PassesOwn.never rfl (pi_range1 rfl T.z_range (pa_cons (pv 1) pa_nil)) (pg_name (i := 3) sc__law_all.nd rfl (Or.inl rfl)) (pss_cons (ps_set (i := 4) sc__law_all.nd rfl (Or.inl rfl) (pe_lst pa_nil)) (pss_cons (ps_for PassesOwn.never rfl (k_ls (K := K) rfl (pv 2)) (pg_name (i := 5) sc__law_all.nd rfl (Or.inr rfl)) (pss_one (ps_set (i := 4) sc__law_all.nd rfl (Or.inl rfl) (pe_op (k_add (K := K) rfl) (pv 4) (pe_lc (own := [("_law_step", 6)]) (g := gName 6) rfl sc__law_all.nd (pi_range1 rfl T.z_range (pa_cons pe_int pa_nil)) (blkOk_by (N := N__law_all) (own := [("_law_step", 6)]) (sc := defScope s__law_all) (by first | decide +kernel | kernel_rfl)) (fun _ _ _ _ _ => (pg_name (i := 6) sc__law_all.nd rfl (Or.inl rfl))) (fun _ _ _ _ _ => pts_nil) (fun _ _ _ _ _ => (pe_op (k_addT (K := K) rfl) (pv 5) (pe_tup (pa_cons (pe_op (k_add (K := K) rfl) (pv 0) (pv 6)) pa_nil))))))))) (pss_one (ps_set (i := 2) sc__law_all.nd rfl (Or.inl rfl) (pv 4)))))) (pss_one (ps_ret (pv 2))))), ?_⟩
  obtain ⟨bs, n, rfl, hn, q⟩ := h
  refine ws_start (ρ' := [some _, some _, none, none, none, none, none]) rfl ?_
  walk_at "w"
  refine loop_V (β := List (List Int)) [3, 4, 5, 6] (fun b => [some (.i bs), some (.i (n : Nat)), some (.lst (b.map rowD)), none, none, none, none]) (fun _ _ => M) (fun i b => b = allR bs i) 0 (n := 0) (b0 := [[]]) rfl rfl (fun i d m b hi hm hI => ?_) fun m b hm hI => ?_
  · obtain ⟨hi2, hid⟩ := rangeD_get hi
    subst hid
    have hbl : b.length ≤ 243 := by
      rw [hI, allR_len]
      exact Nat.le_trans (Nat.pow_le_pow_right (by decide) (show i ≤ 5 by omega)) (by decide)
    walk_at "w"
    refine loop_V (β := List (List Int)) [5, 6] (fun c => [some (.i bs), some (.i (n : Nat)), some (.lst (b.map rowD)), some (.i (i : Nat)), some (.lst (c.map rowD)), none, none]) (fun _ _ => M) (fun j c => c = (b.take j).flatMap fun l => [l ++ [bs + 0], l ++ [bs + 1], l ++ [bs + 2]]) 0 (n := 0) (b0 := []) (by simp) rfl (fun j d m2 c hj hm2 hJ => ?_) fun m2 c hm2 hJ => ?_
    · obtain ⟨line, hline, rfl⟩ := mapD_get hj
      have hll : line.length ≤ 5 := by
        have := ((allR_mem bs i line).mp (hI ▸ List.mem_of_getElem? hline)).1
        omega
      have hcl : c.length ≤ 729 := by
        have h1 := flat_len (f := fun l : List Int => [l ++ [bs + 0], l ++ [bs + 1], l ++ [bs + 2]]) (n := 3) (l := b.take j) fun x _ => Nat.le_refl _
        rw [List.length_take] at h1
        rw [hJ]
        omega
      walk_at "w"
      refine comp_SR (α := List Int) (n := 0) (fun _ => M) (fun _ => MLe.rfl) rowD (fun i x => x = line ++ [bs + ((i : Nat) : Int)]) 0 (by decide) (fun i F hi => ?_) fun xs m3 hl hx _ => ?_
      · walk_at "w"
        refine wr_tupAdd (by simp; omega) ?_
        exact ⟨line ++ [bs + ((i : Nat) : Int)], 0, by unfold rowD; rw [List.map_append]; rfl, rfl, Nat.zero_le _, rfl⟩
      · have hxs : xs = [line ++ [bs + 0], line ++ [bs + 1], line ++ [bs + 2]] := by
          match xs, hl, hx with
          | [x, y, z], _, hx => rw [hx 0 x rfl, hx 1 y rfl, hx 2 z rfl]; rfl
        rw [hxs]
        walk_at "w"
        refine ⟨0, c ++ [line ++ [bs + 0], line ++ [bs + 1], line ++ [bs + 2]], rfl, Nat.zero_le _, ?_, rfl⟩
        rw [take_snoc hline, List.flatMap_append, ← hJ]
        simp
    · rw [List.length_map, List.take_length] at hJ
      walk_at "w"
      exact ⟨0, c, rfl, Nat.zero_le _, by rw [hJ, hI]; rfl, rfl⟩
  · rw [rangeD_len, Int.toNat_natCast] at hI
    walk_at "w"
    rw [hI]
    exact q
def headsF (ms : List (List Str × List (List Int))) : List Str := ms.foldl (fun acc t => acc ++ moreF acc t.1) []
def sp_heads : Sp2 := fun ds M Q2 _ => ∃ (ms : List (List Str × List (List Int))), ds = [.lst (ms.map madeD)] ∧ ms.length ≤ 5 ∧ (∀ t ∈ ms, t.1.length ≤ 9) ∧ (∀ t ∈ ms, ∀ z ∈ t.1, PyData.strOk z = true) ∧ Q2 (.lst ((headsF ms).map DV.s)) M
theorem ok__law_heads (T : Tx K mg a) : FnOk P w K mg base CX0 3 a.f__law_heads a.d__law_heads ["_law_made_here"] (lift ⟨P, w, K⟩ (sp_heads)) := by
  refine okD T.F__law_heads sc__law_heads (fun ds M Q2 E2 h => by obtain ⟨ms, rfl, _⟩ := h; rfl) fun cdv A outer s H E G Fr ds M Q2 E2 hr h => ⟨_, (pss_cons (ps_set (i := 1) sc__law_heads.nd rfl (Or.inr rfl) (pe_lst pa_nil)) (pss_cons (ps_for PassesOwn.never rfl (k_ls (K := K) rfl (pv 0)) (k_gtup (K := K) rfl rfl (pgs_cons (pg_name (i := 2) sc__law_heads.nd rfl (Or.inl rfl)) (pgs_cons (pg_name (i := 3) sc__law_heads.nd rfl (Or.inl rfl)) pgs_nil))) (pss_one (ps_set (i := 1) sc__law_heads.nd rfl (Or.inr rfl) (pe_op (k_add (K := K) rfl) (pv 1) (pe_lc (own := [("_law_name", 4)]) (g := gName 4) rfl sc__law_heads.nd (k_ls (K := K) rfl (pv 2)) (blkOk_by (N := N__law_heads) (own := [("_law_name", 4)]) (sc := defScope s__law_heads) (by first | decide +kernel | kernel_rfl)) (fun _ _ _ _ _ => (pg_name (i := 4) sc__law_heads.nd rfl (Or.inl rfl))) (fun _ _ _ _ _ => (pts_one (pt_cmpR (k_ni (K := K) rfl (hu65 hr)) (pv 4) (pv 1) rfl))) (fun _ _ _ _ _ => (pv 4))))))) (pss_one (ps_ret (pv 1))))), ?_⟩
  obtain ⟨ms, rfl, hl, hw, hs, q⟩ := h
  refine ws_start (ρ' := [some _, none, none, none, none]) rfl ?_
  walk_at "w"
  refine loop_V (β := List Str) [2, 3, 4] (fun b => [some (.lst (ms.map madeD)), some (.lst (b.map DV.s)), none, none, none]) (fun _ _ => M) (fun i b => b = headsF (ms.take i) ∧ b.length ≤ 9 * i) 0 (n := 0) (b0 := []) ⟨rfl, Nat.le_refl _⟩ rfl (fun i d m b hi hm hI => ?_) fun m b hm hI => ?_
  · obtain ⟨t, ht, rfl⟩ := mapD_get hi
    rw [show madeD t = .tup [.lst (t.1.map DV.s), .lst (t.2.map rowD)] from rfl]
    obtain ⟨hI1, hI2⟩ := hI
    have ht9 := hw t (List.mem_of_getElem? ht)
    have hil : i < ms.length := (List.getElem?_eq_some_iff.mp ht).1
    walk_at "w"
    refine comp_filT DV.s DV.s (fun z => !decide (z ∈ b)) t.1 [] (le_size (by simp; omega)) (fun z hz F k2 hk2 => ?_) ?_
    · walk_at "w"
      refine ⟨rfl, rfl, fun h => ?_⟩
      walk_at "w"
      exact hk2 h
    have hml : (moreF b t.1).length ≤ 9 := Nat.le_trans (List.length_filter_le _ _) ht9
    rw [List.nil_append, show (t.1.filter fun z => !decide (z ∈ b)) = moreF b t.1 from rfl]
    refine wr_addLM (by omega) ?_
    walk_at "w"
    refine ⟨0, b ++ moreF b t.1, rfl, Nat.zero_le _, ⟨?_, by rw [List.length_append]; omega⟩, rfl⟩
    rw [take_snoc ht, headsF, List.foldl_append, ← headsF, ← hI1]
    rfl
  · rw [List.length_map, List.take_length] at hI
    walk_at "w"
    rw [hI.1]
    exact q
def atR (hs : List Str) (r : List Int) (t : List Str × List (List Int)) : List Int := t.1.map fun y => r.getD (posS y hs) 0
def goesM (hs : List Str) (r : List Int) (ms : List (List Str × List (List Int))) : Bool := ms.all fun t => decide (atR hs r t ∈ t.2)
theorem wr_niRows {Z : Zn} {M : Mu} {Q2 : DQ} {r : List Int} {rows : List (List Int)} (h : Q2 (.b (decide (r ∉ rows))) M) : DL.WR Z (rNiA Z.W.K) (rowD r) (.lst (rows.map rowD)) M Q2 := by
  refine wr_niB (d := rowD r) (ds := rows.map rowD) (.inl rfl) (.inl rfl) plnL_int plnL_rows (by show depL _ + 1 ≤ 64; rw [depL_int]; decide) (Nat.le_trans depL_rows (by decide)) fun b hb => ?_
  have : (rowD r ∈ rows.map rowD) ↔ r ∈ rows := ⟨fun h => by
    obtain ⟨x, hx, ex⟩ := List.mem_map.mp h
    have : x = r := rMap_inj1 ex
    rw [← this]; exact hx, fun h => List.mem_map.mpr ⟨r, h, rfl⟩⟩
  rw [this] at hb
  rw [show b = decide (r ∉ rows) by rw [Bool.eq_iff_iff, hb, decide_eq_true_eq]]
  exact h
def sp_goesM : Sp2 := fun ds M Q2 _ => ∃ (hs : List Str) (r : List Int) (ms : List (List Str × List (List Int))), ds = [.lst (hs.map DV.s), rowD r, .lst (ms.map madeD)] ∧ ms.length ≤ 5 ∧ hs.length ≤ 9 ∧ r.length = hs.length ∧ (∀ t ∈ ms, t.1.length ≤ 9 ∧ ∀ y ∈ t.1, y ∈ hs) ∧ Q2 (.b (goesM hs r ms)) M
theorem ok__law_goes (T : Tx K mg a) : FnOk P w K mg base CX0 3 a.f__law_goes a.d__law_goes ["_law_heads_here", "_law_line", "_law_made_here"] (lift ⟨P, w, K⟩ (sp_goesM)) := by
  refine okD T.F__law_goes sc__law_goes (fun ds M Q2 E2 h => by obtain ⟨hs, r, ms, rfl, _⟩ := h; rfl) fun cdv A outer s H E G Fr ds M Q2 E2 hr h => ⟨_, (pss_cons (ps_for PassesOwn.never rfl (k_ls (K := K) rfl (pv 2)) (k_gtup (K := K) rfl rfl (pgs_cons (pg_name (i := 3) sc__law_goes.nd rfl (Or.inl rfl)) (pgs_cons (pg_name (i := 4) sc__law_goes.nd rfl (Or.inl rfl)) pgs_nil))) (pss_one (ps_if (pt_cmpR (k_ni (K := K) rfl (hu65 hr)) (pe_callTy (k_tup (K := K) rfl) rfl T.z_tuple bt_tuple (pa_cons (pe_lc (own := [("_law_name", 5)]) (g := gName 5) rfl sc__law_goes.nd (k_ls (K := K) rfl (pv 3)) (blkOk_by (N := N__law_goes) (own := [("_law_name", 5)]) (sc := defScope s__law_goes) (by first | decide +kernel | kernel_rfl)) (fun _ _ _ _ _ => (pg_name (i := 5) sc__law_goes.nd rfl (Or.inl rfl))) (fun _ _ _ _ _ => pts_nil) (fun _ _ _ _ _ => (pe_ix (k_ix (K := K) rfl) (pv 1) (k_bm (K := K) rfl PySem.F.plainAttrs_list PySem.F.slot_list_index PySem.F.type_list_index (k_index (K := K) rfl) (pv 0) (pa_cons (pv 5) pa_nil)) (fun _ _ => rfl)))) pa_nil)) (pv 4) rfl) (pss_one (ps_ret pe_bl)) pss_nil))) (pss_one (ps_ret pe_bl))), ?_⟩
  obtain ⟨hs, r, ms, rfl, hl, hh, hr, hw, q⟩ := h
  refine ws_start (ρ' := [some _, some _, some _, none, none, none]) rfl ?_
  walk_at "w"
  refine loop_KF [3, 4, 5] (fun i => goesM hs r (ms.take i) = true) rfl (fun i d hi hI => ?_) fun hI => ?_
  · obtain ⟨t, ht, rfl⟩ := mapD_get hi
    rw [show madeD t = .tup [.lst (t.1.map DV.s), .lst (t.2.map rowD)] from rfl]
    obtain ⟨ht9, hty⟩ := hw t (List.mem_of_getElem? ht)
    walk_at "w"
    refine comp_mapT DV.s (fun y => .i (r.getD (posS y hs) 0)) t.1 [] (le_size (by simp; omega)) (fun y hy F k2 hk2 => ?_) ?_
    · have hp : posS y hs < r.length := by rw [hr]; exact posS_lt (hty y hy)
      walk_at "w"
      refine wm_indexS (.inl rfl) (hty y hy) ?_
      walk_at "w"
      refine wr_atTM hp fun v hv => ?_
      rw [show r.getD (posS y hs) 0 = v by simp [List.getD_eq_getElem?_getD, hv]] at hk2
      exact hk2
    rw [List.nil_append]
    walk_at "w"
    rw [show DV.tup (t.1.map fun y => DV.i (r.getD (posS y hs) 0)) = rowD (atR hs r t) by unfold rowD atR; rw [List.map_map]; rfl]
    refine wr_niRows ?_
    walk_at "w"
    refine if_d (fun h => ?_) fun h => ?_
    · walk_at "w"
      have e : goesM hs r ms = false := by
        rw [← Bool.not_eq_true]
        intro e
        have := List.all_eq_true.mp e t (List.mem_of_getElem? ht)
        exact h (of_decide_eq_true this)
      rw [e] at q
      exact q
    · walk_at "w"
      refine ⟨rfl, rfl, ?_⟩
      rw [take_snoc ht]
      unfold goesM at hI ⊢
      rw [List.all_append, hI]
      simpa using h
  · rw [List.length_map, List.take_length] at hI
    walk_at "w"
    rw [hI] at q
    exact q
def sp_ref (a : Ad) : Sp2 := fun ds M Q2 _ => ∃ ts, ds = [.lst (ctabsD a.c_Table ts)] ∧ (∀ t ∈ ts, Tab t.1 t.2) ∧ prF ts ≤ 900 ∧ (joinF ts).1.length ≤ 40 ∧ 8 < (joinF ts).1.length ∧ Q2 (.b true) M
theorem ok__law_refused (T : Tx K mg a) : FnOk P w K mg base CX0 18 a.f__law_refused a.d__law_refused ["_law_some"] (lift ⟨P, w, K⟩ (sp_ref a)) := by
  refine okD T.F__law_refused sc__law_refused (fun ds M Q2 E2 h => by obtain ⟨ts, rfl, _⟩ := h; rfl) fun cdv A outer s H E G Fr ds M Q2 E2 hr h => ⟨_, (pss_cons (ps_set (i := 1) sc__law_refused.nd rfl (Or.inl rfl) pe_bl) (pss_cons (ps_tryA (K := K) (i := 2) (Wout := fun _ _ _ _ => False) rfl rfl rfl sc__law_refused.nd rfl rfl ⟨rfl, by decide, Or.inl T.gc_FoldError⟩ takes0 (fun W pn xe tk _ => (pss_one (ps_expr (pe_callS (ok_joined (P := P) (w := w) (K := K) (base := base) T) (hr.mono (by decide)) rfl T.g_joined T.k_joined T.b_joined (fun σ => passAt tk σ) (by exact (pa_cons (pv 0) pa_nil)))))) (fun ae oe cls d pn hz hf => (pss_one (ps_set (i := 1) sc__law_refused.nd rfl (Or.inl rfl) (pe_and (pe_callB (call_isX hz hf) rfl T.z_isinstance bt_isinstance (pa_cons (pv 2) (pa_cons (pe_glob (v := .ref a.c_NoColumns) rfl T.gc_NoColumns rfl) pa_nil))) (pe_one (pe_not (pe_callB (call_isXQ hz hf) rfl T.z_isinstance bt_isinstance (pa_cons (pv 2) (pa_cons (pe_tup (pa_cons (pe_glob (v := .ref a.c_NoColumn) rfl T.gc_NoColumn rfl) (pa_cons (pe_glob (v := .ref a.c_NoRow) rfl T.gc_NoRow rfl) pa_nil))) pa_nil)))))))))) (pss_one (ps_ret (pv 1))))), ?_⟩
  obtain ⟨ts, rfl, tb, hp, h40, h8, q⟩ := h
  refine ws_start (ρ' := [some _, none, none]) rfl ?_
  walk_at "w"
  refine ws_tryA (fun C ns es ρ' M' => ρ' = [some (.lst (ctabsD a.c_Table ts)), some (.v (.bl false)), none] ∧ M' = M ∧ C = a.c_NoColumns ∧ ns = [] ∧ es = []) ?_ ?_
  · intro G1 Wx s1 hw
    walk_at "w"
    refine ⟨_, ts, rfl, .inl rfl, tb, fun i hi => Nat.le_trans (joinF_rows _) (Nat.le_trans (prF_take ts i) hp), wh_len hp, h40, fun _ => ⟨rfl, rfl, rfl, rfl, rfl⟩, fun h => absurd h (by omega)⟩
  · intro C ns es ρ' M' hW
    obtain ⟨rfl, rfl, rfl, rfl, rfl⟩ := hW
    refine ⟨T.ex_NoColumns_FoldError, fun G1 d' ae s1 hx => ?_⟩
    walk_at "w"
    refine wc_isX T.xc_NoColumns hx (.own _) T.kt_NoColumns_NoColumns ?_
    walk_at "w"
    refine wc_isX2 T.xc_NoColumns hx T.ki_NoColumns_NoColumn T.ki_NoColumns_NoRow ?_
    walk_at "w"
    exact q
theorem lex_app : ∀ {x y u v : List Int}, HT.lexLt x y = true → x.length = y.length → HT.lexLt (x ++ u) (y ++ v) = true
  | [], [], u, v, h, _ => by simp [HT.lexLt] at h
  | a :: x, b :: y, u, v, h, e => by
    rw [List.cons_append, List.cons_append]
    unfold HT.lexLt at h ⊢
    by_cases c : a = b
    · rw [if_pos c] at h ⊢
      exact lex_app h (by simpa using e)
    · rw [if_neg c] at h ⊢
      exact h
theorem lex_last {a b : Int} (h : a < b) : ∀ l : List Int, HT.lexLt (l ++ [a]) (l ++ [b]) = true
  | [] => by
    show HT.lexLt [a] [b] = true
    unfold HT.lexLt
    rw [if_neg (by omega)]
    exact decide_eq_true h
  | x :: l => by
    rw [List.cons_append, List.cons_append]
    unfold HT.lexLt
    rw [if_pos rfl]
    exact lex_last h l
theorem three_rising (bs : Int) (n : Nat) : ∀ {L : List (List Int)}, Rising L → (∀ l ∈ L, l.length = n) → Rising (L.flatMap fun l => [l ++ [bs + 0], l ++ [bs + 1], l ++ [bs + 2]])
  | [], _, _ => List.Pairwise.nil
  | x :: L, h, hw => by
    replace h := List.pairwise_cons.mp h
    rw [List.flatMap_cons]
    refine List.pairwise_append.mpr ⟨?_, three_rising bs n h.2 fun l hl => hw l (List.mem_cons_of_mem _ hl), fun u hu v hv => ?_⟩
    · have h1 := lex_last (show bs + 0 < bs + 1 by omega) x
      have h2 := lex_last (show bs + 0 < bs + 2 by omega) x
      have h3 := lex_last (show bs + 1 < bs + 2 by omega) x
      simp only [List.pairwise_cons, List.mem_cons, List.not_mem_nil, or_false]
      exact ⟨fun z hz => by rcases hz with rfl | rfl <;> assumption, fun z hz => by rw [hz]; exact h3, fun z hz => hz.elim, List.Pairwise.nil⟩
    · obtain ⟨y, hy, hv⟩ := List.mem_flatMap.mp hv
      have hxy := h.1 y hy
      have he : x.length = y.length := by rw [hw x List.mem_cons_self, hw y (List.mem_cons_of_mem _ hy)]
      simp only [List.mem_cons, List.not_mem_nil, or_false] at hu hv
      rcases hu with rfl | rfl | rfl <;> rcases hv with rfl | rfl | rfl <;> exact lex_app hxy he
theorem allR_rising (bs : Int) : ∀ n, Rising (allR bs n)
  | 0 => List.pairwise_singleton _ _
  | n + 1 => three_rising bs n (allR_rising bs n) fun l hl => ((allR_mem bs n l).mp hl).1
/-- the tables of what was made -/
def tabsF (ms : List (List Str × List (List Int))) : List CR := ms.map fun t => (t.1, sset t.2)
theorem heads_join : ∀ (ms : List (List Str × List (List Int))) (b : CR) (l : List Str), b.1 = l → (ms.foldl (fun b t => stepJ b (t.1, sset t.2)) b).1 = ms.foldl (fun acc t => acc ++ moreF acc t.1) l
  | [], b, l, h => h
  | t :: ms, b, l, h => heads_join ms _ _ (by show b.1 ++ moreF b.1 t.1 = _; rw [h])
theorem heads_eq (ms : List (List Str × List (List Int))) : (joinF (tabsF ms)).1 = headsF ms := by
  unfold joinF tabsF headsF
  rw [List.foldl_map]
  exact heads_join ms _ _ rfl
theorem due_eq {zs : List Str} {bs : Int} {ms : List (List Str × List (List Int))} (hm : ∀ t ∈ ms, MOk zs bs t) : sset (joinF (tabsF ms)).2 = (allR bs (headsF ms).length).filter fun r => goesM (headsF ms) r ms := by
  have tk0 : ∀ t ∈ tabsF ms, TOk t := fun t ht => by
    obtain ⟨u, hu, rfl⟩ := List.mem_map.mp ht
    exact ⟨(hm u hu).nm.nd, fun r hr => (hm u hu).wid r (mem_sset.mp hr), Rising.nodup (rising_sset _)⟩
  have tk := joinF_tok tk0
  have he := heads_eq ms
  have key : ∀ z : List Int, z.length = (headsF ms).length → (z ∈ (joinF (tabsF ms)).2 ↔ ∀ t ∈ ms, t.1.map (valR (headsF ms) z) ∈ t.2) := fun z hz => by
    have e1 := map_valR tk.nd (show z.length = _ by rw [he]; exact hz)
    have e2 := joinF_sat tk0 (valR (joinF (tabsF ms)).1 z)
    unfold sat at e2
    rw [e1, he] at e2
    rw [e2]
    refine ⟨fun h t ht => mem_sset.mp (h _ (List.mem_map.mpr ⟨t, ht, rfl⟩)), fun h t ht => ?_⟩
    obtain ⟨u, hu, rfl⟩ := List.mem_map.mp ht
    exact mem_sset.mpr (h u hu)
  have at_ : ∀ (z : List Int), z.length = (headsF ms).length → ∀ t ∈ ms, atR (headsF ms) z t = t.1.map (valR (headsF ms) z) := fun z hz t ht => List.map_congr_left fun y hy => by
    have hy' : y ∈ headsF ms := he ▸ joinF_cols.mpr ⟨_, List.mem_map.mpr ⟨t, ht, rfl⟩, hy⟩
    have e1 := map_valR (he ▸ tk.nd : (headsF ms).Nodup) hz
    have := getD_mapV (valR (headsF ms) z) hy'
    rw [e1] at this
    exact this
  refine rising_uniq (rising_sset _) ((allR_rising bs _).filter _) fun z => ?_
  rw [mem_sset, List.mem_filter, allR_mem]
  constructor
  · intro h
    have hz : z.length = (headsF ms).length := he ▸ tk.wid z h
    have hk := (key z hz).mp h
    refine ⟨⟨hz, fun v hv => ?_⟩, List.all_eq_true.mpr fun t ht => decide_eq_true (by rw [at_ z hz t ht]; exact hk t ht)⟩
    rw [← map_valR (he ▸ tk.nd : (headsF ms).Nodup) hz] at hv
    obtain ⟨y, hy, rfl⟩ := List.mem_map.mp hv
    obtain ⟨t, ht, hyt⟩ := joinF_cols.mp (he ▸ hy)
    obtain ⟨u, hu, rfl⟩ := List.mem_map.mp ht
    exact (hm u hu).val _ (hk u hu) _ (List.mem_map.mpr ⟨y, hyt, rfl⟩)
  · rintro ⟨⟨hz, _⟩, hg⟩
    refine (key z hz).mpr fun t ht => ?_
    rw [← at_ z hz t ht]
    exact of_decide_eq_true (List.all_eq_true.mp hg t ht)
def sp_wide (a : Ad) : Sp2 := fun ds M Q2 _ => ∃ (p : Addr) (n : Nat) (M0 : Mu), ds = [.r p] ∧ M = updM M0 p (wl n) ∧ n ≤ 100000 ∧
  ∀ (m : Nat) (t u : CR), m ≤ n + 40 → Tab t.1 t.2 → Tab u.1 u.2 → t.2.length ≤ 1 → u.2.length ≤ 1 → (t.1 ++ u.1).length = 9 → (t.1 ++ u.1).Nodup → Q2 (.lst (ctabsD a.c_Table [t, u])) (updM M0 p (wl m))
theorem ok__law_wide (T : Tx K mg a) : FnOk P w K mg base CX0 15 a.f__law_wide a.d__law_wide ["_law_well_here"] (lift ⟨P, w, K⟩ (sp_wide a)) := by
  refine okD T.F__law_wide sc__law_wide (fun ds M Q2 E2 h => by obtain ⟨p, n, M0, rfl, _⟩ := h; rfl) fun cdv A outer s H E G Fr ds M Q2 E2 hr h => ⟨_, (pss_cons (ps_set (i := 1) sc__law_wide.nd rfl (Or.inl rfl) (pe_call (ok__law_names (P := P) (w := w) (K := K) (base := base) T) (hr.mono (by decide)) rfl T.g__law_names T.k__law_names T.b__law_names .nil passZ (pa_cons (pv 0) (pa_cons pe_int pa_nil)))) (pss_cons (ps_set (i := 2) sc__law_wide.nd rfl (Or.inl rfl) (pe_op (k_add (K := K) rfl) pe_int (pe_call (ok__law_draw (P := P) (w := w) (K := K) (base := base) T) (hr.mono (by decide)) rfl T.g__law_draw T.k__law_draw T.b__law_draw .nil passZ (pa_cons (pv 0) (pa_cons pe_int pa_nil))))) (pss_cons (ps_set (i := 3) sc__law_wide.nd rfl (Or.inl rfl) (pe_callTy (k_tup (K := K) rfl) rfl T.z_tuple bt_tuple (pa_cons (pe_lc (own := [("_law_word", 4)]) (g := gName 4) rfl sc__law_wide.nd (k_ls (K := K) rfl (pv 1)) (blkOk_by (N := N__law_wide) (own := [("_law_word", 4)]) (sc := defScope s__law_wide) (by first | decide +kernel | kernel_rfl)) (fun _ _ _ _ _ => (pg_name (i := 4) sc__law_wide.nd rfl (Or.inl rfl))) (fun _ _ _ _ _ => pts_nil) (fun _ _ _ _ _ => (pe_call (ok__law_draw (P := P) (w := w) (K := K) (base := base) T) (hr.mono (by decide)) rfl T.g__law_draw T.k__law_draw T.b__law_draw .nil passZ (pa_cons (pv 0) (pa_cons pe_int pa_nil))))) pa_nil))) (pss_one (ps_ret (pe_lst (pa_cons (pe_make T.mk_Table (ok_Table_o___init__ (P := P) (w := w) (K := K) (base := base) T) (hr.mono (by decide)) rfl T.gc_Table T.b_Table_o___init__ .nil passF (pa_cons (pe_slice (k_sl (K := K) rfl) (pv 1) po_none (po_some (pv 2))) (pa_cons (pe_lst (pa_cons (pe_slice (k_sl (K := K) rfl) (pv 3) po_none (po_some (pv 2))) pa_nil)) pa_nil))) (pa_cons (pe_make T.mk_Table (ok_Table_o___init__ (P := P) (w := w) (K := K) (base := base) T) (hr.mono (by decide)) rfl T.gc_Table T.b_Table_o___init__ .nil passF (pa_cons (pe_slice (k_sl (K := K) rfl) (pv 1) (po_some (pv 2)) po_none) (pa_cons (pe_op op_mulA (pe_lst (pa_cons (pe_slice (k_sl (K := K) rfl) (pv 3) (po_some (pv 2)) po_none) pa_nil)) (pe_call (ok__law_draw (P := P) (w := w) (K := K) (base := base) T) (hr.mono (by decide)) rfl T.g__law_draw T.k__law_draw T.b__law_draw .nil passZ (pa_cons (pv 0) (pa_cons pe_int pa_nil)))) pa_nil))) pa_nil)))))))), ?_⟩
  obtain ⟨p, n, M0, rfl, rfl, hn, q⟩ := h
  refine ws_start (ρ' := [some _, none, none, none, none]) rfl ?_
  walk_at "w"
  refine names1 (by omega) (by omega) (by omega) fun qn m1 zs nq hq hm1 hz hzl => ?_
  refine ws_seq (ws_frz 1 rfl updM_same trivial ?_)
  rw [delM_updM (by rw [updM_ne nq]; exact hq), show (MO.lst (zs.map DV.s)).frz = .lst (zs.map DV.s) from rfl]
  replace hzl : zs.length = 9 := hzl
  walk_at "w"
  intro c8 hc8
  obtain ⟨cut, hce, hc1, hc9⟩ : ∃ cut : Nat, (1 : Int) + (c8 : Int) = (cut : Nat) ∧ 1 ≤ cut ∧ cut ≤ 8 := ⟨c8 + 1, by omega, by omega, by omega⟩
  walk_at "w"
  rw [hce]
  refine comp_S (α := Int) (fun n => updM M0 p (wl n)) wl_le DV.i (fun _ _ => True) 1 (by simp; omega) (fun j' d' F' hj' hjl => ?_) fun line m2 hll _ hm2 => ?_
  · obtain ⟨z, _, rfl⟩ := mapD_get hj'
    rw [List.length_map] at hjl
    walk_at "w"
    intro r hr
    walk_at "w"
    exact ⟨(r : Nat), _, rfl, trivial, Nat.le_refl _, rfl⟩
  rw [List.length_map] at hll hm2
  walk_at "w"
  refine we_tabR xcF ?_
  walk_at "w"
  have hlm : (line.map DV.i).length = 9 := by rw [List.length_map]; omega
  refine wl_AT (fun h => by
    have h2 := h.2
    rw [hlm, sIx_nat] at h2
    omega) ?_
  rw [cut_map, cut_toN]
  walk_at "w"
  have ho1 : okNames (zs.take cut) := ⟨by rw [List.length_take]; omega, fun z h => hz.nm z (List.mem_of_mem_take h), hz.nd.sublist (List.take_sublist _ _)⟩
  have ho2 : okNames (zs.drop cut) := ⟨by rw [List.length_drop]; omega, fun z h => hz.nm z (List.mem_of_mem_drop h), hz.nd.sublist (List.drop_sublist _ _)⟩
  refine ⟨_, _, zs.take cut, [line.take cut], rfl, .inl rfl, .inl rfl, ho1, (by show 1 < 1000; decide), fun r hr => by rw [List.mem_singleton.mp hr, List.length_take, List.length_take]; omega, ?_⟩
  walk_at "w"
  refine we_tabR xcF ?_
  walk_at "w"
  refine wl_AT (fun h => by
    have h2 := h.1
    rw [hlm, sIx_nat] at h2
    omega) ?_
  rw [cut_map, cut_fromN]
  walk_at "w"
  intro r2 hr2
  walk_at "w"
  obtain ⟨rs, hrs, hr1, hrm⟩ : ∃ rs : List (List Int), (List.replicate (Int.toNat (r2 : Nat)) [rowD (line.drop cut)]).flatten = rs.map rowD ∧ rs.length ≤ 1 ∧ ∀ r ∈ rs, r = line.drop cut := by
    have : r2 = 0 ∨ r2 = 1 := by omega
    rcases this with rfl | rfl
    · exact ⟨[], rfl, by decide, fun r h => by cases h⟩
    · exact ⟨[line.drop cut], rfl, Nat.le_refl _, fun r h => List.mem_singleton.mp h⟩
  refine wr_mulL (ds := [rowD (line.drop cut)]) (.inl rfl) (by omega) (by omega) (le_size (by show 1 * Int.toNat (r2 : Nat) ≤ _; omega)) ?_
  rw [hrs]
  walk_at "w"
  refine ⟨_, _, zs.drop cut, rs, rfl, .inl rfl, .inl rfl, ho2, by omega, fun r hr => by rw [hrm r hr, List.length_drop, List.length_drop]; omega, ?_⟩
  walk_at "w"
  exact q (m2 + 1) (zs.take cut, sset [line.take cut]) (zs.drop cut, sset rs) (by omega)
    ⟨ho1, fun z h => hz.ok z (List.mem_of_mem_take h), rising_sset _, Nat.lt_of_le_of_lt (sset_len _) (by show 1 < 1000; decide), fun r hr => by rw [List.mem_singleton.mp (mem_sset.mp hr), List.length_take, List.length_take]; omega⟩
    ⟨ho2, fun z h => hz.ok z (List.mem_of_mem_drop h), rising_sset _, Nat.lt_of_le_of_lt (sset_len _) (by omega), fun r hr => by rw [hrm r (mem_sset.mp hr), List.length_drop, List.length_drop]; omega⟩
    (sset_len _) (Nat.le_trans (sset_len _) hr1) (by show (zs.take cut ++ zs.drop cut).length = 9; rw [List.take_append_drop]; exact hzl) (by show (zs.take cut ++ zs.drop cut).Nodup; rw [List.take_append_drop]; exact hz.nd)
theorem tab_none {a : Ad} {M : Mu} {zs : List Str} {Q2 : DQ} {E2 : XK2} (hn : okNames zs) (q : Q2 (tabD a.c_Table zs []) M) : KnC M (.lst (zs.map DV.s)) ∧ KnT M .n ∧ (colsM M (.lst (zs.map DV.s)) = none → E2 a.c_NoColumns [] [] M) ∧
    ∀ zs', colsM M (.lst (zs.map DV.s)) = some zs' → (∀ j, rowsM M (zs'.length : Nat) .n = .inl j → E2 a.c_NoRow ["at"] [.i (j : Nat)] M) ∧ ∀ rows, rowsM M (zs'.length : Nat) .n = .inr rows → rows.length < 1000 ∧ Q2 (tabD a.c_Table zs' (sset rows)) M := by
  refine ⟨KnC.names (.inl rfl) hn, ⟨Kn.n, fun es l => by rcases l with l | ⟨_, l, _⟩ <;> cases l⟩, fun ec => ?_, fun zs' ec => ?_⟩
  · rw [colsM_ok (.inl rfl) hn] at ec
    cases ec
  · rw [colsM_ok (.inl rfl) hn] at ec
    cases ec
    exact ⟨fun j h => (by cases h), fun rows h => (by cases h; exact ⟨by decide, q⟩)⟩
theorem we_tabN {a : Ad} {Z : Zn} {ρ : Ro} {M : Mu} {tx : TA} {Q2 : DQ} {dvs : List V} (h : WA Z tx ρ M fun es M1 => ∃ zs, es ++ dvs.map DV.v = [.lst (zs.map DV.s), .n] ∧ okNames zs ∧ Q2 (tabD a.c_Table zs []) M1) :
    WE Z (tMake a.c_Table (lift Z.W (sp_init a)) dvs (fun _ _ _ => False) tx) ρ M Q2 := we_tab (E2 := fun _ _ _ _ => False) xcF (h.imp fun es M1 ⟨zs, e, hn, q⟩ => ⟨_, _, e, tab_none (E2 := fun _ _ _ _ => False) (Q2 := Q2) hn q⟩)
theorem join_nil (ts : List CR) (zs : List Str) : (joinF (ts ++ [(zs, [])])).2 = [] := by
  rw [joinF_snoc]
  unfold stepJ withR
  simp
def sp_right : Sp2 := fun ds M Q2 _ => ∃ (p : Addr), ds = [.r p] ∧ M p = some (wl 0) ∧ ∀ M', Q2 (.b true) M'
theorem ok__law_right (T : Tx K mg a) : FnOk P w K mg base CX0 21 a.f__law_right a.d__law_right ["_law_well_here"] (lift ⟨P, w, K⟩ (sp_right)) := by
  refine okD T.F__law_right sc__law_right (fun ds M Q2 E2 h => by obtain ⟨p, rfl, _⟩ := h; rfl) fun cdv A outer s H E G Fr ds M Q2 E2 hr h => ⟨_, (pss_cons (ps_set (i := 1) sc__law_right.nd rfl (Or.inl rfl) (pe_call (ok__law_names (P := P) (w := w) (K := K) (base := base) T) (hr.mono (by decide)) rfl T.g__law_names T.k__law_names T.b__law_names .nil passZ (pa_cons (pv 0) (pa_cons (pe_op (k_add (K := K) rfl) pe_int (pe_call (ok__law_draw (P := P) (w := w) (K := K) (base := base) T) (hr.mono (by decide)) rfl T.g__law_draw T.k__law_draw T.b__law_draw .nil passZ (pa_cons (pv 0) (pa_cons pe_int pa_nil)))) pa_nil)))) (pss_cons (ps_set (i := 2) sc__law_right.nd rfl (Or.inl rfl) (pe_call (ok__law_base (P := P) (w := w) (K := K) (base := base) T) (hr.mono (by decide)) rfl T.g__law_base T.k__law_base T.b__law_base .nil passZ (pa_cons (pv 0) pa_nil))) (pss_cons (ps_set (i := 3) sc__law_right.nd rfl (Or.inr rfl) (pe_call (ok__law_made (P := P) (w := w) (K := K) (base := base) T) (hr.mono (by decide)) rfl T.g__law_made T.k__law_made T.b__law_made .nil passZ (pa_cons (pv 0) (pa_cons (pv 1) (pa_cons (pv 2) pa_nil))))) (pss_cons (ps_set (i := 4) sc__law_right.nd rfl (Or.inr rfl) (pe_call (ok__law_heads (P := P) (w := w) (K := K) (base := base) T) (hr.mono (by decide)) rfl T.g__law_heads T.k__law_heads T.b__law_heads .nil passZ (pa_cons (pv 3) pa_nil))) (pss_cons (ps_setLc (i := 5) (own := [("_law_line", 11)]) (g := gName 11) rfl sc__law_right.nd rfl rfl (sw_true rfl rfl rfl (by decide +kernel)) (k_ls (K := K) rfl (pe_call (ok__law_all (P := P) (w := w) (K := K) (base := base) T) (hr.mono (by decide)) rfl T.g__law_all T.k__law_all T.b__law_all .nil passZ (pa_cons (pv 2) (pa_cons (pe_callB (k_len (K := K) rfl) rfl T.z_len bt_len (pa_cons (pv 4) pa_nil)) pa_nil)))) (blkOk_by (N := N__law_right) (own := [("_law_line", 11)]) (sc := defScope s__law_right) (by first | decide +kernel | kernel_rfl)) (fun _ _ _ _ _ => (pg_name (i := 11) sc__law_right.nd rfl (Or.inl rfl))) (fun _ _ _ _ _ => (pts_one (pt_val (pe_call (ok__law_goes (P := P) (w := w) (K := K) (base := base) T) (hr.mono (by decide)) rfl T.g__law_goes T.k__law_goes T.b__law_goes .nil passZ (pa_cons (pv 4) (pa_cons (pv 11) (pa_cons (pv 3) pa_nil))))))) (fun _ _ _ _ _ => (pv 11))) (pss_cons (ps_setLc (i := 6) (own := [("_law_one", 12), ("_law_lines", 13)]) (g := gTup K 2 (gCons (gName 12) (gCons (gName 13) gNil))) rfl sc__law_right.nd rfl rfl (sw_true rfl rfl rfl (by decide +kernel)) (k_ls (K := K) rfl (pv 3)) (blkOk_by (N := N__law_right) (own := [("_law_one", 12), ("_law_lines", 13)]) (sc := defScope s__law_right) (by first | decide +kernel | kernel_rfl)) (fun _ _ _ _ _ => (k_gtup (K := K) rfl rfl (pgs_cons (pg_name (i := 12) sc__law_right.nd rfl (Or.inl rfl)) (pgs_cons (pg_name (i := 13) sc__law_right.nd rfl (Or.inl rfl)) pgs_nil)))) (fun _ _ _ _ _ => pts_nil) (fun _ _ _ _ _ => (pe_make T.mk_Table (ok_Table_o___init__ (P := P) (w := w) (K := K) (base := base) T) (hr.mono (by decide)) rfl T.gc_Table T.b_Table_o___init__ .nil passF (pa_cons (pv 12) (pa_cons (pv 13) pa_nil))))) (pss_cons (ps_set (i := 7) sc__law_right.nd rfl (Or.inl rfl) (pe_callTy (k_listM (K := K) rfl) rfl T.z_list bt_list (pa_cons (pv 6) pa_nil))) (pss_cons (ps_for PassesOwn.never rfl (pi_range1 rfl T.z_range (pa_cons pe_int pa_nil)) (pg_name (i := 8) sc__law_right.nd rfl (Or.inl rfl)) (pss_cons (ps_set (i := 9) sc__law_right.nd rfl (Or.inl rfl) (pe_call (ok_joined (P := P) (w := w) (K := K) (base := base) T) (hr.mono (by decide)) rfl T.g_joined T.k_joined T.b_joined .nil passF (pa_cons (pv 7) pa_nil))) (pss_one (ps_if (PW.pt (pw_or (pt_cmpR (k_ne (K := K) rfl (hu64 hr)) (pe_meth0 (pv 9) T.cl_Table T.m_Table_o_columns (ok_Table_o_columns (P := P) (w := w) (K := K) (base := base) T) (hr.mono (by decide)) T.b_Table_o_columns .nil passZ) (pv 4) (nomark _)) (pw_or (pt_cmpR (k_ne (K := K) rfl (hu64 hr)) (pe_meth0 (pv 9) T.cl_Table T.m_Table_o_rows (ok_Table_o_rows (P := P) (w := w) (K := K) (base := base) T) (hr.mono (by decide)) T.b_Table_o_rows .nil passZ) (pv 5) (nomark _)) (pw_or (pt_not (pt_val (pe_callB (k_isi (K := K) rfl) rfl T.z_isinstance bt_isinstance (pa_cons (pv 9) (pa_cons (pe_glob (v := .ref a.c_Table) rfl T.gc_Table rfl) pa_nil))))) (pw_or1 (pt_cmpR (op_lstNeOwn (K := K) (W := ⟨P, w, K⟩) rfl (ok_Table_o___eq__ (P := P) (w := w) (K := K) (base := base) T) T.eq_Table (hr.mono (by decide)) T.b_Table_o___eq__ passZ) (pv 7) (pv 6) (nomark _))))))) (pss_one (ps_ret pe_bl)) pss_nil)))) (pss_cons (ps_expr (k_bm (K := K) rfl PySem.F.plainAttrs_list PySem.F.slot_list_append PySem.F.type_list_append mt_append (pv 7) (pa_cons pe_non pa_nil))) (pss_cons (ps_if (PW.pt (pw_or (pt_cmpR (op_lstNeOwn (K := K) (W := ⟨P, w, K⟩) rfl (ok_Table_o___eq__ (P := P) (w := w) (K := K) (base := base) T) T.eq_Table (hr.mono (by decide)) T.b_Table_o___eq__ passZ) (pv 6) (pe_lc (own := [("_law_one", 12), ("_law_lines", 13)]) (g := gTup K 2 (gCons (gName 12) (gCons (gName 13) gNil))) rfl sc__law_right.nd (k_ls (K := K) rfl (pv 3)) (blkOk_by (N := N__law_right) (own := [("_law_one", 12), ("_law_lines", 13)]) (sc := defScope s__law_right) (by first | decide +kernel | kernel_rfl)) (fun _ _ _ _ _ => (k_gtup (K := K) rfl rfl (pgs_cons (pg_name (i := 12) sc__law_right.nd rfl (Or.inl rfl)) (pgs_cons (pg_name (i := 13) sc__law_right.nd rfl (Or.inl rfl)) pgs_nil)))) (fun _ _ _ _ _ => pts_nil) (fun _ _ _ _ _ => (pe_make T.mk_Table (ok_Table_o___init__ (P := P) (w := w) (K := K) (base := base) T) (hr.mono (by decide)) rfl T.gc_Table T.b_Table_o___init__ .nil passF (pa_cons (pv 12) (pa_cons (pv 13) pa_nil))))) (nomark _)) (pw_or1 (pt_cmpR (k_ne (K := K) rfl (hu64 hr)) (pe_meth0 (pv 9) T.cl_Table T.m_Table_o_rows (ok_Table_o_rows (P := P) (w := w) (K := K) (base := base) T) (hr.mono (by decide)) T.b_Table_o_rows .nil passZ) (pv 5) (nomark _))))) (pss_one (ps_ret pe_bl)) pss_nil) (pss_cons (ps_if (pt_not (pt_val (pe_call (ok__law_refused (P := P) (w := w) (K := K) (base := base) T) (hr.mono (by decide)) rfl T.g__law_refused T.k__law_refused T.b__law_refused .nil passZ (pa_cons (pe_op (k_add (K := K) rfl) (pv 6) (pe_call (ok__law_wide (P := P) (w := w) (K := K) (base := base) T) (hr.mono (by decide)) rfl T.g__law_wide T.k__law_wide T.b__law_wide .nil passZ (pa_cons (pv 0) pa_nil))) pa_nil)))) (pss_one (ps_ret pe_bl)) pss_nil) (pss_cons (ps_set (i := 10) sc__law_right.nd rfl (Or.inl rfl) (pe_call (ok_joined (P := P) (w := w) (K := K) (base := base) T) (hr.mono (by decide)) rfl T.g_joined T.k_joined T.b_joined .nil passF (pa_cons (pe_op (k_add (K := K) rfl) (pv 6) (pe_lst (pa_cons (pe_make T.mk_Table (ok_Table_o___init__ (P := P) (w := w) (K := K) (base := base) T) (hr.mono (by decide)) rfl T.gc_Table T.bx1_Table_o___init__.choose_spec.2 T.bx1_Table_o___init__.choose_spec.1 passF (pa_cons (pe_slice (k_sl (K := K) rfl) (pv 1) po_none (po_some pe_int)) pa_nil)) pa_nil))) pa_nil))) (pss_one (ps_ret (pe_and (pe_cmpR (k_eq (K := K) rfl (hu64 hr)) (pe_callB (call_lenO T.fl_Table T.il_Table (ok_Table_o___len__ (P := P) (w := w) (K := K) (base := base) T) (hr.mono (by decide)) T.b_Table_o___len__ passZ) rfl T.z_len bt_len (pa_cons (pv 10) pa_nil)) pe_int (nomark _)) (pe_one (pe_cmpR (k_eq (K := K) rfl (hu64 hr)) (pe_meth0 (pv 10) T.cl_Table T.m_Table_o_columns (ok_Table_o_columns (P := P) (w := w) (K := K) (base := base) T) (hr.mono (by decide)) T.b_Table_o_columns .nil passZ) (pe_call (ok__law_heads (P := P) (w := w) (K := K) (base := base) T) (hr.mono (by decide)) rfl T.g__law_heads T.k__law_heads T.b__law_heads .nil passZ (pa_cons (pe_op (k_add (K := K) rfl) (pv 3) (pe_lst (pa_cons (pe_tup (pa_cons (pe_slice (k_sl (K := K) rfl) (pv 1) po_none (po_some pe_int)) (pa_cons (pe_lst pa_nil) pa_nil))) pa_nil))) pa_nil)) (nomark _)))))))))))))))))), ?_⟩
  obtain ⟨p, rfl, hm, q⟩ := h
  refine ws_start (ρ' := [some _, none, none, none, none, none, none, none, none, none, none, none, none, none]) rfl ?_
  rw [← updM_self hm]
  walk_at "w"
  intro r1 h1
  obtain ⟨cnt, hce, hc1, hc5⟩ : ∃ cnt : Nat, (2 : Int) + (r1 : Int) = (cnt : Nat) ∧ 2 ≤ cnt ∧ cnt ≤ 5 := ⟨r1 + 2, by omega, by omega, by omega⟩
  walk_at "w"
  rw [hce]
  refine names1 (by omega) (by omega) (by omega) fun qn m5 zs nq hq hm5 hz hzl => ?_
  rw [Int.toNat_natCast] at hzl
  refine ws_seq (ws_frz 1 rfl updM_same trivial ?_)
  rw [delM_updM (by rw [updM_ne nq]; exact hq), show (MO.lst (zs.map DV.s)).frz = .lst (zs.map DV.s) from rfl]
  walk_at "w"
  refine base1 (by omega) fun bs => ?_
  walk_at "w"
  refine ⟨p, _, zs, bs, _, rfl, rfl, by omega, by omega, hz, fun m8 ms hm8 hml hms => ?_⟩
  walk_at "w"
  have hin : ∀ z ∈ headsF ms, z ∈ zs := fun z h => by
    rw [← heads_eq] at h
    obtain ⟨t, ht, hzt⟩ := joinF_cols.mp h
    obtain ⟨u, hu, rfl⟩ := List.mem_map.mp ht
    exact (hms u hu).sub z hzt
  have hnd : (headsF ms).Nodup := by
    rw [← heads_eq]
    exact (joinF_tok fun t ht => by
      obtain ⟨u, hu, rfl⟩ := List.mem_map.mp ht
      exact ⟨(hms u hu).nm.nd, fun r hr => (hms u hu).wid r (mem_sset.mp hr), Rising.nodup (rising_sset _)⟩).nd
  have hh5 : (headsF ms).length ≤ 5 := Nat.le_trans (len_sub hnd hin) (by omega)
  refine ⟨by omega, fun t ht => Nat.le_trans (hms t ht).l4 (by decide), fun t ht z h => (hms t ht).nm.ok z h, ?_⟩
  walk_at "w"
  have hal : (allR bs (headsF ms).length).length ≤ 243 := by
    rw [allR_len]
    exact Nat.le_trans (Nat.pow_le_pow_right (by decide) hh5) (by decide)
  have hcol : ∀ t ∈ ms, ∀ y ∈ t.1, y ∈ headsF ms := fun t ht y hy => by
    rw [← heads_eq]
    exact joinF_cols.mpr ⟨_, List.mem_map.mpr ⟨t, ht, rfl⟩, hy⟩
  refine ⟨hh5, _, rfl, ?_⟩
  refine comp_filT rowD rowD (fun r => goesM (headsF ms) r ms) (allR bs (headsF ms).length) [] (le_size (by simp; omega)) (fun r hr F k2 hk2 => ?_) ?_
  · have hr1 := ((allR_mem bs _ r).mp hr).1
    walk_at "w"
    refine ⟨by omega, by omega, hr1, fun t ht => ⟨Nat.le_trans (hms t ht).l4 (by decide), hcol t ht⟩, _, rfl, rfl, rfl, fun h => ?_⟩
    walk_at "w"
    exact hk2 h
  rw [List.nil_append, ← due_eq hms]
  walk_at "w"
  refine comp_mapT madeD (fun t => tabD a.c_Table t.1 (sset t.2)) ms [] (le_size (by simp; omega)) (fun t ht F k2 hk2 => ?_) ?_
  · have T4 := hms t ht
    have h5 := T4.l5
    rw [show madeD t = .tup [.lst (t.1.map DV.s), .lst (t.2.map rowD)] from rfl]
    walk_at "w"
    refine we_tabR xcF ?_
    walk_at "w"
    refine ⟨_, _, t.1, t.2, rfl, .inl rfl, .inl rfl, ⟨Nat.le_trans T4.l4 (by decide), T4.nm.nm, T4.nm.nd⟩, by omega, T4.wid, ?_⟩
    exact hk2
  rw [List.nil_append]
  walk_at "w"
  intro qh hqh
  obtain ⟨nh, hqh0⟩ := updM_none hqh
  walk_at "w"
  have tbs : ∀ t ∈ tabsF ms, Tab t.1 t.2 := fun t ht => by
    obtain ⟨u, hu, rfl⟩ := List.mem_map.mp ht
    have T4 := hms u hu
    have h5 := T4.l5
    exact ⟨⟨Nat.le_trans T4.l4 (by decide), T4.nm.nm, T4.nm.nd⟩, T4.nm.ok, rising_sset _, Nat.lt_of_le_of_lt (sset_len _) (by omega), fun r hr => T4.wid r (mem_sset.mp hr)⟩
  have hpr0 : prF (tabsF ms) ≤ 625 := by
    refine Nat.le_trans (prF_pow (k := 5) (by decide) _ fun t ht => ?_) (Nat.pow_le_pow_right (n := 5) (by decide) (show (tabsF ms).length ≤ 4 by unfold tabsF; rw [List.length_map]; exact hml))
    obtain ⟨u, hu, rfl⟩ := List.mem_map.mp ht
    exact Nat.le_trans (sset_len _) (hms u hu).l5
  have hpr : prF (tabsF ms) ≤ 900 := by omega
  have hcs : ctabsD a.c_Table (tabsF ms) = ms.map fun t => tabD a.c_Table t.1 (sset t.2) := by
    unfold ctabsD tabsF
    rw [List.map_map]
    rfl
  have hwh : whF (tabsF ms) = (headsF ms, sset (joinF (tabsF ms)).2) := by unfold whF; rw [heads_eq]
  have hsk : ∀ z ∈ headsF ms, PyData.strOk z = true := fun z h => hz.ok z (hin z h)
  have hown : ∀ t ∈ tabsF ms, OwnI a.c_Table (sp_eq a) (tabD a.c_Table t.1 t.2) (tabD a.c_Table t.1 t.2) := fun t ht => .inr ⟨_, _, _, _, rfl, rfl, fun M Q2 E2 q => ⟨t.1, t.2, _, rfl, .inl ⟨t.1, t.2, rfl, (tbs t ht).sk, (tbs t ht).sk, by rw [decide_eq_true (⟨rfl, rfl⟩ : t.1 = t.1 ∧ t.2 = t.2)]; exact q⟩⟩⟩
  rw [← hcs]
  obtain ⟨due, hdue⟩ : ∃ due, sset (joinF (tabsF ms)).2 = due := ⟨_, rfl⟩
  rw [hdue] at hwh ⊢
  refine loop_V (β := Option DV) [8] (fun b => [some (.r p), some (.lst (zs.map DV.s)), some (.i bs), some (.lst (ms.map madeD)), some (.lst ((headsF ms).map DV.s)), some (.lst (due.map rowD)), some (.lst (ctabsD a.c_Table (tabsF ms))), some (.r qh), none, b, none, none, none, none]) (fun _ _ => updM (updM M p (wl m8)) qh (.lst (ctabsD a.c_Table (tabsF ms)))) (fun i b => i = 0 ∧ b = none ∨ b = some (tabD a.c_Table (headsF ms) due)) 0 (n := 0) (b0 := none) (.inl ⟨rfl, rfl⟩) rfl (fun i d m b hi hm hI => ?_) fun m b hm hI => ?_
  · walk_at "w"
    refine ⟨_, tabsF ms, rfl, .inr ⟨qh, rfl, updM_same⟩, tbs, fun i _ => Nat.le_trans (joinF_rows _) (Nat.le_trans (prF_take _ i) hpr), wh_len hpr, by rw [heads_eq]; omega, fun h => absurd h (by rw [heads_eq]; omega), fun _ => ?_⟩
    rw [heads_eq, hdue]
    walk_at "w"
    refine wc_isi (.own _) (tyD_obj T.eq_Table (.inl rfl)) T.kt_Table_Table ?_
    walk_at "w"
    refine wr_lstNeOwn (.inr ⟨qh, rfl, updM_same⟩) (.inl rfl) (OwnP.map hown) ?_
    walk_at "w"
    exact ⟨0, _, rfl, by omega, .inr rfl, rfl⟩
  · replace hI : b = some (tabD a.c_Table (headsF ms) due) := hI.resolve_left (by rw [rangeD_len]; simp)
    subst hI
    walk_at "w"
    refine wm_app1 (by unfold ctabsD tabsF; simp; omega) ?_
    walk_at "w"
    refine comp_mapT madeD (fun t => tabD a.c_Table t.1 (sset t.2)) ms [] (le_size (by simp; omega)) (fun t ht F k2 hk2 => ?_) ?_
    · have T4 := hms t ht
      have h5 := T4.l5
      rw [show madeD t = .tup [.lst (t.1.map DV.s), .lst (t.2.map rowD)] from rfl]
      walk_at "w"
      refine we_tabR xcF ?_
      walk_at "w"
      refine ⟨_, _, t.1, t.2, rfl, .inl rfl, .inl rfl, ⟨Nat.le_trans T4.l4 (by decide), T4.nm.nm, T4.nm.nd⟩, by omega, T4.wid, ?_⟩
      exact hk2
    rw [List.nil_append, ← hcs]
    refine wr_lstNeOwn (.inl rfl) (.inl rfl) (OwnP.map hown) ?_
    walk_at "w"
    refine ⟨p, m8, updM M qh (.lst (ctabsD a.c_Table (tabsF ms) ++ [.n])), rfl, updM_comm nh, by omega, fun m9 t u hm9 tt tu tl ul h9 nd9 => ?_⟩
    have hcl : (ctabsD a.c_Table (tabsF ms)).length ≤ 4 := by unfold ctabsD tabsF; simp; omega
    have htb2 : ∀ x ∈ tabsF ms ++ [t, u], Tab x.1 x.2 := fun x hx => by
      rcases List.mem_append.mp hx with h | h
      · exact tbs x h
      · simp only [List.mem_cons, List.not_mem_nil, or_false] at h
        rcases h with rfl | rfl <;> assumption
    have hj : (joinF (tabsF ms ++ [t, u])).1 = (headsF ms ++ moreF (headsF ms) t.1) ++ moreF (headsF ms ++ moreF (headsF ms) t.1) u.1 := by
      rw [show tabsF ms ++ [t, u] = (tabsF ms ++ [t]) ++ [u] by simp, joinF_snoc, joinF_snoc]
      show (stepJ (stepJ (joinF (tabsF ms)) t) u).1 = _
      unfold stepJ
      rw [heads_eq]
    have htk := joinF_tok fun x hx => (htb2 x hx).tok
    have hj8 : 8 < (joinF (tabsF ms ++ [t, u])).1.length := by
      have : (t.1 ++ u.1).length ≤ (joinF (tabsF ms ++ [t, u])).1.length := len_sub nd9 fun z hz => by
        rcases List.mem_append.mp hz with h | h
        · exact joinF_cols.mpr ⟨t, by simp, h⟩
        · exact joinF_cols.mpr ⟨u, by simp, h⟩
      omega
    have hj40 : (joinF (tabsF ms ++ [t, u])).1.length ≤ 40 := by
      rw [hj]
      have h1 := List.length_filter_le (fun z => !decide (z ∈ headsF ms)) t.1
      have h2 : (moreF (headsF ms ++ moreF (headsF ms) t.1) u.1).length ≤ u.1.length := List.length_filter_le _ _
      have h3 : (moreF (headsF ms) t.1).length ≤ t.1.length := h1
      rw [List.length_append] at h9
      rw [List.length_append, List.length_append]
      omega
    have hp2 : prF (tabsF ms ++ [t, u]) ≤ 900 := by
      rw [prF_app, prF_cons, prF_cons, show prF [] = 1 from rfl, show max 1 t.2.length = 1 by omega, show max 1 u.2.length = 1 by omega]
      omega
    refine wr_addLn (by show _ + 2 ≤ _; omega) ?_
    walk_at "w"
    rw [show ctabsD a.c_Table (tabsF ms) ++ ctabsD a.c_Table [t, u] = ctabsD a.c_Table (tabsF ms ++ [t, u]) by unfold ctabsD; rw [List.map_append]]
    refine ⟨_, rfl, htb2, hp2, hj40, hj8, ?_⟩
    walk_at "w"
    have hn2 : okNames (zs.take 2) := ⟨by rw [List.length_take]; omega, fun z h => hz.nm z (List.mem_of_mem_take h), hz.nd.sublist (List.take_sublist _ _)⟩
    refine we_tabN ?_
    walk_at "w"
    refine ⟨hn2, ?_⟩
    rw [show Int.toNat 2 = 2 from rfl]
    walk_at "w"
    refine wr_addLn (by show _ + 1 ≤ _; omega) ?_
    walk_at "w"
    have hms2 : tabsF (ms ++ [(zs.take 2, [])]) = tabsF ms ++ [(zs.take 2, [])] := by unfold tabsF; rw [List.map_append]; rfl
    have htb3 : ∀ x ∈ tabsF ms ++ [(zs.take 2, [])], Tab x.1 x.2 := fun x hx => by
      rcases List.mem_append.mp hx with h | h
      · exact tbs x h
      · rw [List.mem_singleton.mp h]
        exact ⟨hn2, fun z h => hz.ok z (List.mem_of_mem_take h), List.Pairwise.nil, by show 0 < 1000; decide, fun r hr => by cases hr⟩
    have hj3 : (joinF (tabsF ms ++ [(zs.take 2, [])])).1.length ≤ 8 := by
      rw [joinF_snoc]
      show ((joinF (tabsF ms)).1 ++ moreF (joinF (tabsF ms)).1 (zs.take 2)).length ≤ 8
      rw [heads_eq, List.length_append]
      have h1 : (moreF (headsF ms) (zs.take 2)).length ≤ (zs.take 2).length := List.length_filter_le _ _
      rw [List.length_take] at h1
      omega
    rw [show ctabsD a.c_Table (tabsF ms) ++ [tabD a.c_Table (zs.take 2) []] = ctabsD a.c_Table (tabsF ms ++ [(zs.take 2, [])]) by unfold ctabsD; rw [List.map_append]; rfl]
    refine joA htb3 (by rw [prF_app, show prF [(zs.take 2, [])] = 1 from rfl]; omega) (by omega) hj3 ?_
    have hw3 : whF (tabsF ms ++ [(zs.take 2, [])]) = (headsF (ms ++ [(zs.take 2, [])]), []) := by
      rw [← hms2, ← heads_eq]
      unfold whF
      rw [hms2, join_nil]
      rfl
    rw [hw3]
    have hsk3 : ∀ z ∈ headsF (ms ++ [(zs.take 2, [])]), PyData.strOk z = true := fun z h => by
      rw [← heads_eq, hms2] at h
      obtain ⟨t, ht, hzt⟩ := joinF_cols.mp h
      exact (htb3 t ht).sk z hzt
    walk_at "w"
    refine wc_lenO xcF (.inl rfl) ⟨_, _, rfl, _, rfl, by decide, by decide, ?_⟩
    walk_at "w"
    refine wr_addLn (by rw [List.length_map]; show _ + 1 ≤ _; omega) ?_
    walk_at "w"
    rw [show Int.toNat 2 = 2 from rfl, show List.map madeD ms ++ [DV.tup [DV.lst (List.map DV.s (List.take 2 zs)), DV.lst []]] = (ms ++ [(zs.take 2, [])]).map madeD by rw [List.map_append]; rfl]
    refine ⟨_, rfl, by rw [List.length_append]; show _ + 1 ≤ 5; omega, fun t ht => ?_, fun t ht z h => ?_, ?_⟩
    · rcases List.mem_append.mp ht with h | h
      · exact Nat.le_trans (hms t h).l4 (by decide)
      · rw [List.mem_singleton.mp h, List.length_take]; omega
    · rcases List.mem_append.mp ht with h2 | h2
      · exact (hms t h2).nm.ok z h
      · rw [List.mem_singleton.mp h2] at h
        exact hz.ok z (List.mem_of_mem_take h)
    walk_at "w"
    exact q _
theorem ok_law (T : Tx K mg a) : FnOk P w K mg base CX0 90 a.f_law a.d_law ["_law_script"] (spL K) := by
  refine okLaw (k := 89) T.F_law sc_law fun cdv A outer s H E s0 ns hr hS hl => ⟨_, (pss_cons (ps_for PassesOwn.never rfl (k_enum (K := K) rfl rfl T.z_enumerate (pa_cons (pe_op (k_add (K := K) rfl) (pe_lst (pa_cons pe_int pa_nil)) (pe_slice (k_sl (K := K) rfl) (pv 0) po_none (po_some pe_int))) pa_nil)) (k_gtup (K := K) rfl rfl (pgs_cons (pg_name (i := 1) sc_law.nd rfl (Or.inl rfl)) (pgs_cons (pg_name (i := 2) sc_law.nd rfl (Or.inl rfl)) pgs_nil))) (pss_one (ps_if (pt_not (pt_val (pe_call (ok__law_right (P := P) (w := w) (K := K) (base := base) T) (hr.mono (by decide)) rfl T.g__law_right T.k__law_right T.b__law_right .nil passZ (pa_cons (pe_call (ok__law_well (P := P) (w := w) (K := K) (base := base) T) (hr.mono (by decide)) rfl T.g__law_well T.k__law_well T.b__law_well .nil passZ (pa_cons (pv 2) (pa_cons (pv 1) pa_nil))) pa_nil)))) (pss_one (ps_ret pe_bl)) pss_nil))) (pss_one (ps_ret (pe_and (pe_cmpR (k_eq (K := K) rfl (hu64 hr)) (pe_meth0 (pe_call (ok_joined (P := P) (w := w) (K := K) (base := base) T) (hr.mono (by decide)) rfl T.g_joined T.k_joined T.b_joined .nil passF (pa_cons (pe_lst pa_nil) pa_nil)) T.cl_Table T.m_Table_o_rows (ok_Table_o_rows (P := P) (w := w) (K := K) (base := base) T) (hr.mono (by decide)) T.b_Table_o_rows .nil passZ) (pe_lst (pa_cons (pe_tup pa_nil) pa_nil)) (nomark _)) (pe_and (pe_cmpR (k_eq (K := K) rfl (hu64 hr)) (pe_meth0 (pe_callP (ok_joined (P := P) (w := w) (K := K) (base := base) T) (hr.mono (by decide)) rfl T.g_joined T.k_joined T.kp0_joined passF (pk_cons (pe_lst pa_nil) pk_nil)) T.cl_Table T.m_Table_o_columns (ok_Table_o_columns (P := P) (w := w) (K := K) (base := base) T) (hr.mono (by decide)) T.b_Table_o_columns .nil passZ) (pe_lst pa_nil) (nomark _)) (pe_one (pe_cmpR (k_eq (K := K) rfl (hu64 hr)) (pe_meth0 (pe_call (ok_joined (P := P) (w := w) (K := K) (base := base) T) (hr.mono (by decide)) rfl T.g_joined T.k_joined T.b_joined .nil passF (pa_cons (pe_lst (pa_cons (pe_make T.mk_Table (ok_Table_o___init__ (P := P) (w := w) (K := K) (base := base) T) (hr.mono (by decide)) rfl T.gc_Table T.bx1_Table_o___init__.choose_spec.2 T.bx1_Table_o___init__.choose_spec.1 passF (pa_cons (pe_lst pa_nil) pa_nil)) pa_nil)) pa_nil)) T.cl_Table T.m_Table_o_rows (ok_Table_o_rows (P := P) (w := w) (K := K) (base := base) T) (hr.mono (by decide)) T.b_Table_o_rows .nil passZ) (pe_lst pa_nil) (nomark _)))))))), ?_⟩
  refine ws_start (ρ' := [some _, none, none]) rfl ?_
  walk_at "w"
  refine wl_scr 6 hS fun cs hcs => ?_
  refine wr_addLn (by simp; omega) ?_
  walk_at "w"
  refine loop_K [1, 2] (fun M : Mu => M) (fun _ _ => True) trivial (fun i d M1 hi _ => ?_) fun M1 _ => ?_
  · obtain ⟨e, he, rfl⟩ := enumD_get hi
    obtain ⟨c, rfl⟩ : ∃ c : Int, e = .i c := by
      have := List.mem_of_getElem? he
      rw [List.mem_append, List.mem_singleton, List.mem_map] at this
      rcases this with rfl | ⟨c, _, rfl⟩ <;> exact ⟨_, rfl⟩
    walk_at "w"
    intro p hp
    walk_at "w"
    refine ⟨updM_same, fun M' => ?_⟩
    walk_at "w"
    exact ⟨by dsimp only [wipe2, List.set], _, trivial, rfl⟩
  have he : okNames [] := ⟨by decide, by simp, List.nodup_nil⟩
  walk_at "w"
  refine joA (ts := []) (fun t ht => by cases ht) (by decide) (by decide) (by decide) ?_
  walk_at "w"
  refine wr_eqRows (rows := [[]]) ?_
  walk_at "w"
  refine wa_pk ?_
  walk_at "w"
  refine ⟨by decide, ?_⟩
  refine joA (ts := []) (fun t ht => by cases ht) (by decide) (by decide) (by decide) ?_
  walk_at "w"
  refine wr_eqStrs (zs := []) (fun z h => by cases h) ?_
  walk_at "w"
  refine we_tabN ?_
  walk_at "w"
  refine ⟨[], rfl, he, ?_⟩
  walk_at "w"
  refine joA (ts := [([], [])]) (fun t ht => by rw [List.mem_singleton.mp ht]; exact ⟨he, fun z h => (by cases h), List.Pairwise.nil, by show 0 < 1000; decide, fun r h => (by cases h)⟩) (by decide) (by decide) (by decide) ?_
  walk_at "w"
  refine wr_eqRows (rows := []) ?_
  rfl
end
theorem all_mk {l : PySem.W.OpenLaw} {w : World} {K : PySem.W.Frag} {h : Heap} {mg : Str → Option Value} {fa c_FoldError c_NoColumns c_NoRow c_NoColumn c_Table f_is_name f_is_value f_is_row f_want_row f_are_columns f_goes_with f_joined f__law_well f__law_draw f__law_names f__law_base f__law_picked f__law_made f__law_all f__law_heads f__law_wide f__law_refused f__law_goes f__law_right f_law f_NoRow_o___init__ f_Table_o___init__ f_Table_o___len__ f_Table_o___eq__ f_Table_o_columns f_Table_o_rows : Addr} (X : K.In h) (G : h.Ns mainGlobals mg) (hfa : mg "law" = some (.ref fa))
    {oc_is_name kV_is_name dc_is_name pm_is_name cd_is_name ct_is_name : Value} {od_is_name an_is_name : Option Addr} {sl_is_name : Array (Option Value)}
    {oc_is_value kV_is_value dc_is_value pm_is_value cd_is_value ct_is_value : Value} {od_is_value an_is_value : Option Addr} {sl_is_value : Array (Option Value)}
    {oc_is_row kV_is_row dc_is_row pm_is_row cd_is_row ct_is_row : Value} {od_is_row an_is_row : Option Addr} {sl_is_row : Array (Option Value)}
    {oc_want_row kV_want_row dc_want_row pm_want_row cd_want_row ct_want_row : Value} {od_want_row an_want_row : Option Addr} {sl_want_row : Array (Option Value)}
    {dT_want_row : Addr} {o2_want_row : Value} {od2_want_row : Option Addr} {n2_want_row : Nat} {sl2_want_row : Array (Option Value)} {tk0_want_row : Tok}
    {oc_are_columns kV_are_columns dc_are_columns pm_are_columns cd_are_columns ct_are_columns : Value} {od_are_columns an_are_columns : Option Addr} {sl_are_columns : Array (Option Value)}
    {oc_goes_with kV_goes_with dc_goes_with pm_goes_with cd_goes_with ct_goes_with : Value} {od_goes_with an_goes_with : Option Addr} {sl_goes_with : Array (Option Value)}
    {oc_joined kV_joined dc_joined pm_joined cd_joined ct_joined : Value} {od_joined an_joined : Option Addr} {sl_joined : Array (Option Value)}
    {oc__law_well kV__law_well dc__law_well pm__law_well cd__law_well ct__law_well : Value} {od__law_well an__law_well : Option Addr} {sl__law_well : Array (Option Value)}
    {oc__law_draw kV__law_draw dc__law_draw pm__law_draw cd__law_draw ct__law_draw : Value} {od__law_draw an__law_draw : Option Addr} {sl__law_draw : Array (Option Value)}
    {oc__law_names kV__law_names dc__law_names pm__law_names cd__law_names ct__law_names : Value} {od__law_names an__law_names : Option Addr} {sl__law_names : Array (Option Value)}
    {oc__law_base kV__law_base dc__law_base pm__law_base cd__law_base ct__law_base : Value} {od__law_base an__law_base : Option Addr} {sl__law_base : Array (Option Value)}
    {oc__law_picked kV__law_picked dc__law_picked pm__law_picked cd__law_picked ct__law_picked : Value} {od__law_picked an__law_picked : Option Addr} {sl__law_picked : Array (Option Value)}
    {oc__law_made kV__law_made dc__law_made pm__law_made cd__law_made ct__law_made : Value} {od__law_made an__law_made : Option Addr} {sl__law_made : Array (Option Value)}
    {oc__law_all kV__law_all dc__law_all pm__law_all cd__law_all ct__law_all : Value} {od__law_all an__law_all : Option Addr} {sl__law_all : Array (Option Value)}
    {oc__law_heads kV__law_heads dc__law_heads pm__law_heads cd__law_heads ct__law_heads : Value} {od__law_heads an__law_heads : Option Addr} {sl__law_heads : Array (Option Value)}
    {oc__law_wide kV__law_wide dc__law_wide pm__law_wide cd__law_wide ct__law_wide : Value} {od__law_wide an__law_wide : Option Addr} {sl__law_wide : Array (Option Value)}
    {oc__law_refused kV__law_refused dc__law_refused pm__law_refused cd__law_refused ct__law_refused : Value} {od__law_refused an__law_refused : Option Addr} {sl__law_refused : Array (Option Value)}
    {oc__law_goes kV__law_goes dc__law_goes pm__law_goes cd__law_goes ct__law_goes : Value} {od__law_goes an__law_goes : Option Addr} {sl__law_goes : Array (Option Value)}
    {oc__law_right kV__law_right dc__law_right pm__law_right cd__law_right ct__law_right : Value} {od__law_right an__law_right : Option Addr} {sl__law_right : Array (Option Value)}
    {oc_law kV_law dc_law pm_law cd_law ct_law : Value} {od_law an_law : Option Addr} {sl_law : Array (Option Value)}
    {oc_NoRow_o___init__ kV_NoRow_o___init__ dc_NoRow_o___init__ pm_NoRow_o___init__ cd_NoRow_o___init__ ct_NoRow_o___init__ : Value} {od_NoRow_o___init__ an_NoRow_o___init__ : Option Addr} {sl_NoRow_o___init__ : Array (Option Value)}
    {oc_Table_o___init__ kV_Table_o___init__ dc_Table_o___init__ pm_Table_o___init__ cd_Table_o___init__ ct_Table_o___init__ : Value} {od_Table_o___init__ an_Table_o___init__ : Option Addr} {sl_Table_o___init__ : Array (Option Value)}
    {dT_Table_o___init__ : Addr} {o2_Table_o___init__ : Value} {od2_Table_o___init__ : Option Addr} {n2_Table_o___init__ : Nat} {sl2_Table_o___init__ : Array (Option Value)}
    {oc_Table_o___len__ kV_Table_o___len__ dc_Table_o___len__ pm_Table_o___len__ cd_Table_o___len__ ct_Table_o___len__ : Value} {od_Table_o___len__ an_Table_o___len__ : Option Addr} {sl_Table_o___len__ : Array (Option Value)}
    {oc_Table_o___eq__ kV_Table_o___eq__ dc_Table_o___eq__ pm_Table_o___eq__ cd_Table_o___eq__ ct_Table_o___eq__ : Value} {od_Table_o___eq__ an_Table_o___eq__ : Option Addr} {sl_Table_o___eq__ : Array (Option Value)}
    {oc_Table_o_columns kV_Table_o_columns dc_Table_o_columns pm_Table_o_columns cd_Table_o_columns ct_Table_o_columns : Value} {od_Table_o_columns an_Table_o_columns : Option Addr} {sl_Table_o_columns : Array (Option Value)}
    {oc_Table_o_rows kV_Table_o_rows dc_Table_o_rows pm_Table_o_rows cd_Table_o_rows ct_Table_o_rows : Value} {od_Table_o_rows an_Table_o_rows : Option Addr} {sl_Table_o_rows : Array (Option Value)}
    {nm_NoRow q_NoRow : Str} {N_NoRow : Addr} {bs_NoRow bm_NoRow sub_NoRow : List Value} {sn_NoRow : List Str} {ab_NoRow : Bool} {col_NoRow : Option Bool} {dd_NoRow : Option Addr} {m0_NoRow m1_NoRow m2_NoRow m3_NoRow m5_NoRow : Option Value}
    {tk_LETTERS : Tok}
    {tk_LONGEST_NAME : Tok}
    {tk_MOST_COLUMNS : Tok}
    (gc_FoldError : PySem.W.nsIn K mainGlobals "FoldError" = some (some (.ref c_FoldError)))
    (gc_NoColumns : PySem.W.nsIn K mainGlobals "NoColumns" = some (some (.ref c_NoColumns)))
    (gc_NoRow : PySem.W.nsIn K mainGlobals "NoRow" = some (some (.ref c_NoRow)))
    (gc_NoColumn : PySem.W.nsIn K mainGlobals "NoColumn" = some (some (.ref c_NoColumn)))
    (gc_Table : PySem.W.nsIn K mainGlobals "Table" = some (some (.ref c_Table)))
    (a_is_name : PySem.W.nsIn K mainGlobals "is_name" = some (some (.ref f_is_name)))
    (a_is_value : PySem.W.nsIn K mainGlobals "is_value" = some (some (.ref f_is_value)))
    (a_is_row : PySem.W.nsIn K mainGlobals "is_row" = some (some (.ref f_is_row)))
    (a_want_row : PySem.W.nsIn K mainGlobals "want_row" = some (some (.ref f_want_row)))
    (a_are_columns : PySem.W.nsIn K mainGlobals "are_columns" = some (some (.ref f_are_columns)))
    (a_goes_with : PySem.W.nsIn K mainGlobals "goes_with" = some (some (.ref f_goes_with)))
    (a_joined : PySem.W.nsIn K mainGlobals "joined" = some (some (.ref f_joined)))
    (a__law_well : PySem.W.nsIn K mainGlobals "_law_well" = some (some (.ref f__law_well)))
    (a__law_draw : PySem.W.nsIn K mainGlobals "_law_draw" = some (some (.ref f__law_draw)))
    (a__law_names : PySem.W.nsIn K mainGlobals "_law_names" = some (some (.ref f__law_names)))
    (a__law_base : PySem.W.nsIn K mainGlobals "_law_base" = some (some (.ref f__law_base)))
    (a__law_picked : PySem.W.nsIn K mainGlobals "_law_picked" = some (some (.ref f__law_picked)))
    (a__law_made : PySem.W.nsIn K mainGlobals "_law_made" = some (some (.ref f__law_made)))
    (a__law_all : PySem.W.nsIn K mainGlobals "_law_all" = some (some (.ref f__law_all)))
    (a__law_heads : PySem.W.nsIn K mainGlobals "_law_heads" = some (some (.ref f__law_heads)))
    (a__law_wide : PySem.W.nsIn K mainGlobals "_law_wide" = some (some (.ref f__law_wide)))
    (a__law_refused : PySem.W.nsIn K mainGlobals "_law_refused" = some (some (.ref f__law_refused)))
    (a__law_goes : PySem.W.nsIn K mainGlobals "_law_goes" = some (some (.ref f__law_goes)))
    (a__law_right : PySem.W.nsIn K mainGlobals "_law_right" = some (some (.ref f__law_right)))
    (a_law : PySem.W.nsIn K mainGlobals "law" = some (some (.ref f_law)))
    (a_NoRow_o___init__ : PySem.W.findIn K (.ref c_NoRow) "__init__" = some (some (.ref f_NoRow_o___init__)))
    (a_Table_o___init__ : PySem.W.findIn K (.ref c_Table) "__init__" = some (some (.ref f_Table_o___init__)))
    (a_Table_o___len__ : PySem.W.findIn K (.ref c_Table) "__len__" = some (some (.ref f_Table_o___len__)))
    (a_Table_o___eq__ : PySem.W.findIn K (.ref c_Table) "__eq__" = some (some (.ref f_Table_o___eq__)))
    (a_Table_o_columns : PySem.W.findIn K (.ref c_Table) "columns" = some (some (.ref f_Table_o_columns)))
    (a_Table_o_rows : PySem.W.findIn K (.ref c_Table) "rows" = some (some (.ref f_Table_o_rows)))
    (l_is_name : K.lookup f_is_name = some ⟨oc_is_name, od_is_name, .func (PySem.W.fnOf "is_name" "is_name" (defArgs s_is_name) (defBody s_is_name) (defScope s_is_name) .none kV_is_name dc_is_name pm_is_name an_is_name cd_is_name ct_is_name), sl_is_name⟩)
    (l_is_value : K.lookup f_is_value = some ⟨oc_is_value, od_is_value, .func (PySem.W.fnOf "is_value" "is_value" (defArgs s_is_value) (defBody s_is_value) (defScope s_is_value) .none kV_is_value dc_is_value pm_is_value an_is_value cd_is_value ct_is_value), sl_is_value⟩)
    (l_is_row : K.lookup f_is_row = some ⟨oc_is_row, od_is_row, .func (PySem.W.fnOf "is_row" "is_row" (defArgs s_is_row) (defBody s_is_row) (defScope s_is_row) .none kV_is_row dc_is_row pm_is_row an_is_row cd_is_row ct_is_row), sl_is_row⟩)
    (l_want_row : K.lookup f_want_row = some ⟨oc_want_row, od_want_row, .func (PySem.W.fnOf "want_row" "want_row" (defArgs s_want_row) (defBody s_want_row) (defScope s_want_row) (.ref dT_want_row) kV_want_row dc_want_row pm_want_row an_want_row cd_want_row ct_want_row), sl_want_row⟩)
    (ld_want_row : K.lookup dT_want_row = some ⟨o2_want_row, od2_want_row, .seq (List.toArray [.int 0 tk0_want_row]) n2_want_row, sl2_want_row⟩)
    (l_are_columns : K.lookup f_are_columns = some ⟨oc_are_columns, od_are_columns, .func (PySem.W.fnOf "are_columns" "are_columns" (defArgs s_are_columns) (defBody s_are_columns) (defScope s_are_columns) .none kV_are_columns dc_are_columns pm_are_columns an_are_columns cd_are_columns ct_are_columns), sl_are_columns⟩)
    (l_goes_with : K.lookup f_goes_with = some ⟨oc_goes_with, od_goes_with, .func (PySem.W.fnOf "goes_with" "goes_with" (defArgs s_goes_with) (defBody s_goes_with) (defScope s_goes_with) .none kV_goes_with dc_goes_with pm_goes_with an_goes_with cd_goes_with ct_goes_with), sl_goes_with⟩)
    (l_joined : K.lookup f_joined = some ⟨oc_joined, od_joined, .func (PySem.W.fnOf "joined" "joined" (defArgs s_joined) (defBody s_joined) (defScope s_joined) .none kV_joined dc_joined pm_joined an_joined cd_joined ct_joined), sl_joined⟩)
    (l__law_well : K.lookup f__law_well = some ⟨oc__law_well, od__law_well, .func (PySem.W.fnOf "_law_well" "_law_well" (defArgs s__law_well) (defBody s__law_well) (defScope s__law_well) .none kV__law_well dc__law_well pm__law_well an__law_well cd__law_well ct__law_well), sl__law_well⟩)
    (l__law_draw : K.lookup f__law_draw = some ⟨oc__law_draw, od__law_draw, .func (PySem.W.fnOf "_law_draw" "_law_draw" (defArgs s__law_draw) (defBody s__law_draw) (defScope s__law_draw) .none kV__law_draw dc__law_draw pm__law_draw an__law_draw cd__law_draw ct__law_draw), sl__law_draw⟩)
    (l__law_names : K.lookup f__law_names = some ⟨oc__law_names, od__law_names, .func (PySem.W.fnOf "_law_names" "_law_names" (defArgs s__law_names) (defBody s__law_names) (defScope s__law_names) .none kV__law_names dc__law_names pm__law_names an__law_names cd__law_names ct__law_names), sl__law_names⟩)
    (l__law_base : K.lookup f__law_base = some ⟨oc__law_base, od__law_base, .func (PySem.W.fnOf "_law_base" "_law_base" (defArgs s__law_base) (defBody s__law_base) (defScope s__law_base) .none kV__law_base dc__law_base pm__law_base an__law_base cd__law_base ct__law_base), sl__law_base⟩)
    (l__law_picked : K.lookup f__law_picked = some ⟨oc__law_picked, od__law_picked, .func (PySem.W.fnOf "_law_picked" "_law_picked" (defArgs s__law_picked) (defBody s__law_picked) (defScope s__law_picked) .none kV__law_picked dc__law_picked pm__law_picked an__law_picked cd__law_picked ct__law_picked), sl__law_picked⟩)
    (l__law_made : K.lookup f__law_made = some ⟨oc__law_made, od__law_made, .func (PySem.W.fnOf "_law_made" "_law_made" (defArgs s__law_made) (defBody s__law_made) (defScope s__law_made) .none kV__law_made dc__law_made pm__law_made an__law_made cd__law_made ct__law_made), sl__law_made⟩)
    (l__law_all : K.lookup f__law_all = some ⟨oc__law_all, od__law_all, .func (PySem.W.fnOf "_law_all" "_law_all" (defArgs s__law_all) (defBody s__law_all) (defScope s__law_all) .none kV__law_all dc__law_all pm__law_all an__law_all cd__law_all ct__law_all), sl__law_all⟩)
    (l__law_heads : K.lookup f__law_heads = some ⟨oc__law_heads, od__law_heads, .func (PySem.W.fnOf "_law_heads" "_law_heads" (defArgs s__law_heads) (defBody s__law_heads) (defScope s__law_heads) .none kV__law_heads dc__law_heads pm__law_heads an__law_heads cd__law_heads ct__law_heads), sl__law_heads⟩)
    (l__law_wide : K.lookup f__law_wide = some ⟨oc__law_wide, od__law_wide, .func (PySem.W.fnOf "_law_wide" "_law_wide" (defArgs s__law_wide) (defBody s__law_wide) (defScope s__law_wide) .none kV__law_wide dc__law_wide pm__law_wide an__law_wide cd__law_wide ct__law_wide), sl__law_wide⟩)
    (l__law_refused : K.lookup f__law_refused = some ⟨oc__law_refused, od__law_refused, .func (PySem.W.fnOf "_law_refused" "_law_refused" (defArgs s__law_refused) (defBody s__law_refused) (defScope s__law_refused) .none kV__law_refused dc__law_refused pm__law_refused an__law_refused cd__law_refused ct__law_refused), sl__law_refused⟩)
    (l__law_goes : K.lookup f__law_goes = some ⟨oc__law_goes, od__law_goes, .func (PySem.W.fnOf "_law_goes" "_law_goes" (defArgs s__law_goes) (defBody s__law_goes) (defScope s__law_goes) .none kV__law_goes dc__law_goes pm__law_goes an__law_goes cd__law_goes ct__law_goes), sl__law_goes⟩)
    (l__law_right : K.lookup f__law_right = some ⟨oc__law_right, od__law_right, .func (PySem.W.fnOf "_law_right" "_law_right" (defArgs s__law_right) (defBody s__law_right) (defScope s__law_right) .none kV__law_right dc__law_right pm__law_right an__law_right cd__law_right ct__law_right), sl__law_right⟩)
    (l_law : K.lookup f_law = some ⟨oc_law, od_law, .func (PySem.W.fnOf "law" "law" (defArgs s_law) (defBody s_law) (defScope s_law) .none kV_law dc_law pm_law an_law cd_law ct_law), sl_law⟩)
    (l_NoRow_o___init__ : K.lookup f_NoRow_o___init__ = some ⟨oc_NoRow_o___init__, od_NoRow_o___init__, .func (PySem.W.fnOf "__init__" "NoRow.__init__" (defArgs s_NoRow_o___init__) (defBody s_NoRow_o___init__) (defScope s_NoRow_o___init__) .none kV_NoRow_o___init__ dc_NoRow_o___init__ pm_NoRow_o___init__ an_NoRow_o___init__ cd_NoRow_o___init__ ct_NoRow_o___init__), sl_NoRow_o___init__⟩)
    (l_Table_o___init__ : K.lookup f_Table_o___init__ = some ⟨oc_Table_o___init__, od_Table_o___init__, .func (PySem.W.fnOf "__init__" "Table.__init__" (defArgs s_Table_o___init__) (defBody s_Table_o___init__) (defScope s_Table_o___init__) (.ref dT_Table_o___init__) kV_Table_o___init__ dc_Table_o___init__ pm_Table_o___init__ an_Table_o___init__ cd_Table_o___init__ ct_Table_o___init__), sl_Table_o___init__⟩)
    (ld_Table_o___init__ : K.lookup dT_Table_o___init__ = some ⟨o2_Table_o___init__, od2_Table_o___init__, .seq (List.toArray [.none]) n2_Table_o___init__, sl2_Table_o___init__⟩)
    (l_Table_o___len__ : K.lookup f_Table_o___len__ = some ⟨oc_Table_o___len__, od_Table_o___len__, .func (PySem.W.fnOf "__len__" "Table.__len__" (defArgs s_Table_o___len__) (defBody s_Table_o___len__) (defScope s_Table_o___len__) .none kV_Table_o___len__ dc_Table_o___len__ pm_Table_o___len__ an_Table_o___len__ cd_Table_o___len__ ct_Table_o___len__), sl_Table_o___len__⟩)
    (l_Table_o___eq__ : K.lookup f_Table_o___eq__ = some ⟨oc_Table_o___eq__, od_Table_o___eq__, .func (PySem.W.fnOf "__eq__" "Table.__eq__" (defArgs s_Table_o___eq__) (defBody s_Table_o___eq__) (defScope s_Table_o___eq__) .none kV_Table_o___eq__ dc_Table_o___eq__ pm_Table_o___eq__ an_Table_o___eq__ cd_Table_o___eq__ ct_Table_o___eq__), sl_Table_o___eq__⟩)
    (l_Table_o_columns : K.lookup f_Table_o_columns = some ⟨oc_Table_o_columns, od_Table_o_columns, .func (PySem.W.fnOf "columns" "Table.columns" (defArgs s_Table_o_columns) (defBody s_Table_o_columns) (defScope s_Table_o_columns) .none kV_Table_o_columns dc_Table_o_columns pm_Table_o_columns an_Table_o_columns cd_Table_o_columns ct_Table_o_columns), sl_Table_o_columns⟩)
    (l_Table_o_rows : K.lookup f_Table_o_rows = some ⟨oc_Table_o_rows, od_Table_o_rows, .func (PySem.W.fnOf "rows" "Table.rows" (defArgs s_Table_o_rows) (defBody s_Table_o_rows) (defScope s_Table_o_rows) .none kV_Table_o_rows dc_Table_o_rows pm_Table_o_rows an_Table_o_rows cd_Table_o_rows ct_Table_o_rows), sl_Table_o_rows⟩)
    (c1_is_name : PySem.W.codeIn K cd_is_name "is_name" = true)
    (k1_is_name : PySem.W.keepIn K (.ref f_is_name) = true)
    (c1_is_value : PySem.W.codeIn K cd_is_value "is_value" = true)
    (k1_is_value : PySem.W.keepIn K (.ref f_is_value) = true)
    (c1_is_row : PySem.W.codeIn K cd_is_row "is_row" = true)
    (k1_is_row : PySem.W.keepIn K (.ref f_is_row) = true)
    (c1_want_row : PySem.W.codeIn K cd_want_row "want_row" = true)
    (k1_want_row : PySem.W.keepIn K (.ref f_want_row) = true)
    (c1_are_columns : PySem.W.codeIn K cd_are_columns "are_columns" = true)
    (k1_are_columns : PySem.W.keepIn K (.ref f_are_columns) = true)
    (c1_goes_with : PySem.W.codeIn K cd_goes_with "goes_with" = true)
    (k1_goes_with : PySem.W.keepIn K (.ref f_goes_with) = true)
    (c1_joined : PySem.W.codeIn K cd_joined "joined" = true)
    (k1_joined : PySem.W.keepIn K (.ref f_joined) = true)
    (c1__law_well : PySem.W.codeIn K cd__law_well "_law_well" = true)
    (k1__law_well : PySem.W.keepIn K (.ref f__law_well) = true)
    (c1__law_draw : PySem.W.codeIn K cd__law_draw "_law_draw" = true)
    (k1__law_draw : PySem.W.keepIn K (.ref f__law_draw) = true)
    (c1__law_names : PySem.W.codeIn K cd__law_names "_law_names" = true)
    (k1__law_names : PySem.W.keepIn K (.ref f__law_names) = true)
    (c1__law_base : PySem.W.codeIn K cd__law_base "_law_base" = true)
    (k1__law_base : PySem.W.keepIn K (.ref f__law_base) = true)
    (c1__law_picked : PySem.W.codeIn K cd__law_picked "_law_picked" = true)
    (k1__law_picked : PySem.W.keepIn K (.ref f__law_picked) = true)
    (c1__law_made : PySem.W.codeIn K cd__law_made "_law_made" = true)
    (k1__law_made : PySem.W.keepIn K (.ref f__law_made) = true)
    (c1__law_all : PySem.W.codeIn K cd__law_all "_law_all" = true)
    (k1__law_all : PySem.W.keepIn K (.ref f__law_all) = true)
    (c1__law_heads : PySem.W.codeIn K cd__law_heads "_law_heads" = true)
    (k1__law_heads : PySem.W.keepIn K (.ref f__law_heads) = true)
    (c1__law_wide : PySem.W.codeIn K cd__law_wide "_law_wide" = true)
    (k1__law_wide : PySem.W.keepIn K (.ref f__law_wide) = true)
    (c1__law_refused : PySem.W.codeIn K cd__law_refused "_law_refused" = true)
    (k1__law_refused : PySem.W.keepIn K (.ref f__law_refused) = true)
    (c1__law_goes : PySem.W.codeIn K cd__law_goes "_law_goes" = true)
    (k1__law_goes : PySem.W.keepIn K (.ref f__law_goes) = true)
    (c1__law_right : PySem.W.codeIn K cd__law_right "_law_right" = true)
    (k1__law_right : PySem.W.keepIn K (.ref f__law_right) = true)
    (c1_law : PySem.W.codeIn K cd_law "law" = true)
    (k1_law : PySem.W.keepIn K (.ref f_law) = true)
    (c1_NoRow_o___init__ : PySem.W.codeIn K cd_NoRow_o___init__ "NoRow.__init__" = true)
    (k1_NoRow_o___init__ : PySem.W.keepIn K (.ref f_NoRow_o___init__) = true)
    (c1_Table_o___init__ : PySem.W.codeIn K cd_Table_o___init__ "Table.__init__" = true)
    (k1_Table_o___init__ : PySem.W.keepIn K (.ref f_Table_o___init__) = true)
    (i1_Table_o___init__ : PySem.W.isFn K (.ref f_Table_o___init__) = true)
    (c1_Table_o___len__ : PySem.W.codeIn K cd_Table_o___len__ "Table.__len__" = true)
    (k1_Table_o___len__ : PySem.W.keepIn K (.ref f_Table_o___len__) = true)
    (i1_Table_o___len__ : PySem.W.isFn K (.ref f_Table_o___len__) = true)
    (c1_Table_o___eq__ : PySem.W.codeIn K cd_Table_o___eq__ "Table.__eq__" = true)
    (k1_Table_o___eq__ : PySem.W.keepIn K (.ref f_Table_o___eq__) = true)
    (i1_Table_o___eq__ : PySem.W.isFn K (.ref f_Table_o___eq__) = true)
    (c1_Table_o_columns : PySem.W.codeIn K cd_Table_o_columns "Table.columns" = true)
    (k1_Table_o_columns : PySem.W.keepIn K (.ref f_Table_o_columns) = true)
    (i1_Table_o_columns : PySem.W.isFn K (.ref f_Table_o_columns) = true)
    (c1_Table_o_rows : PySem.W.codeIn K cd_Table_o_rows "Table.rows" = true)
    (k1_Table_o_rows : PySem.W.keepIn K (.ref f_Table_o_rows) = true)
    (i1_Table_o_rows : PySem.W.isFn K (.ref f_Table_o_rows) = true)
    (sp_FoldError : PySem.W.specialIn K (.ref c_FoldError) "__getattribute__" = some (some (.builtin "type.__getattribute__")))
    (rd_FoldError : PySem.W.readsIn K c_FoldError (.type "type") = true)
    (fc_FoldError : PySem.W.findCls K (.ref c_FoldError) (.type "type") "__init__" = some (.val (.builtin "ValueError.__init__")))
    (eC_NoColumns : PySem.W.subIn K (.ref c_NoColumns) (.type "BaseException") = some true)
    (tC_NoColumns : PySem.W.typeIn K (.ref c_NoColumns) = some (.type "type"))
    (kc_NoColumns : PySem.W.keepIn K (.ref c_NoColumns) = true)
    (xi_NoColumns : PySem.W.excIn K c_NoColumns [.type "ValueError", .type "Exception", .type "BaseException", .type "object"] "ValueError.__new__" = true)
    (ga_NoColumns : PySem.W.findIn K (.ref c_NoColumns) "__getattribute__" = some (some (.builtin "BaseException.__getattribute__")))
    (gg_NoColumns : PySem.W.findIn K (.ref c_NoColumns) "__getattr__" = some none)
    (hd_NoColumns : PySem.W.hasDictIn K c_NoColumns = true)
    (hc_NoColumns : PySem.W.findIn K (.ref c_NoColumns) "__class__" = some (some (.builtin "object.__class__")))
    (hnO : PySem.W.specialIn K (.builtin "object.__class__") "__get__" = some (some (.builtin "getset_descriptor.__get__")))
    (htO : PySem.W.takesIn K (.builtin "object.__class__") = some true)
    (hm_NoColumns : PySem.W.mroIn K c_NoColumns (.type "object") = some true)
    (eC_NoRow : PySem.W.subIn K (.ref c_NoRow) (.type "BaseException") = some true)
    (tC_NoRow : PySem.W.typeIn K (.ref c_NoRow) = some (.type "type"))
    (kc_NoRow : PySem.W.keepIn K (.ref c_NoRow) = true)
    (xL_NoRow : K.lookup c_NoRow = some (PySem.excClassObj nm_NoRow q_NoRow c_NoRow N_NoRow bs_NoRow bm_NoRow true sn_NoRow sub_NoRow ab_NoRow col_NoRow dd_NoRow m0_NoRow m1_NoRow m2_NoRow m3_NoRow m5_NoRow "ValueError.__new__"))
    (rv_NoRow : PySem.HandSPX.refsVE bm_NoRow = true)
    (sa_NoRow : PySem.W.findIn K (.ref c_NoRow) "__setattr__" = some (some (.builtin "object.__setattr__")))
    (tI_NoRow : PySem.W.typeIn K (.ref f_NoRow_o___init__) = some (.type "function"))
    (pg_Table : PySem.W.plainGet K c_Table Str.empty = true)
    (hd_Table : PySem.W.hasDictIn K c_Table = true)
    (po_Table : PySem.W.plainOver K c_Table = true)
    (sa_Table : PySem.W.findIn K (.ref c_Table) "__setattr__" = some (some (.builtin "object.__setattr__")))
    (mk_Table : PySem.W.makesIn K c_Table = true)
    (kc_Table : PySem.W.keepIn K (.ref c_Table) = true)
    (ex_NoColumns_FoldError : PySem.W.exmOne K (.ref c_NoColumns) (.ref c_FoldError) = some true)
    (ki_NoColumns_NoColumn : PySem.W.kitOne K (.ref c_NoColumns) (.ref c_NoColumn) = some false)
    (ki_NoColumns_NoRow : PySem.W.kitOne K (.ref c_NoColumns) (.ref c_NoRow) = some false)
    (ki_NoneType_Table : PySem.W.kitOne K (.type "NoneType") (.ref c_Table) = some false)
    (ki_bool_Table : PySem.W.kitOne K (.type "bool") (.ref c_Table) = some false)
    (ki_dict_Table : PySem.W.kitOne K (.type "dict") (.ref c_Table) = some false)
    (ki_int_Table : PySem.W.kitOne K (.type "int") (.ref c_Table) = some false)
    (ki_list_Table : PySem.W.kitOne K (.type "list") (.ref c_Table) = some false)
    (ki_str_Table : PySem.W.kitOne K (.type "str") (.ref c_Table) = some false)
    (ki_tuple_Table : PySem.W.kitOne K (.type "tuple") (.ref c_Table) = some false)
    (kt_NoColumns_NoColumns : PySem.W.kitOne K (.ref c_NoColumns) (.ref c_NoColumns) = some true)
    (kt_Table_Table : PySem.W.kitOne K (.ref c_Table) (.ref c_Table) = some true)
    (na_NoRow_o_at : PySem.W.findIn K (.ref c_NoRow) "at" = some none)
    (na_Table_o_held : PySem.W.findIn K (.ref c_Table) "held" = some none)
    (na_Table_o_named : PySem.W.findIn K (.ref c_Table) "named" = some none)
    (v_LETTERS : PySem.W.nsIn K mainGlobals "LETTERS" = some (some (.str "abcdefghijklmnopqrstuvwxyz" tk_LETTERS)))
    (v_LONGEST_NAME : PySem.W.nsIn K mainGlobals "LONGEST_NAME" = some (some (.int 8 tk_LONGEST_NAME)))
    (v_MOST_COLUMNS : PySem.W.nsIn K mainGlobals "MOST_COLUMNS" = some (some (.int 8 tk_MOST_COLUMNS)))
    (z_all : PySem.W.nsIn K mainGlobals "all" = some none)
    (z_bool : PySem.W.nsIn K mainGlobals "bool" = some none)
    (z_dict : PySem.W.nsIn K mainGlobals "dict" = some none)
    (z_enumerate : PySem.W.nsIn K mainGlobals "enumerate" = some none)
    (z_int : PySem.W.nsIn K mainGlobals "int" = some none)
    (z_isinstance : PySem.W.nsIn K mainGlobals "isinstance" = some none)
    (z_len : PySem.W.nsIn K mainGlobals "len" = some none)
    (z_list : PySem.W.nsIn K mainGlobals "list" = some none)
    (z_min : PySem.W.nsIn K mainGlobals "min" = some none)
    (z_range : PySem.W.nsIn K mainGlobals "range" = some none)
    (z_set : PySem.W.nsIn K mainGlobals "set" = some none)
    (z_sorted : PySem.W.nsIn K mainGlobals "sorted" = some none)
    (z_str : PySem.W.nsIn K mainGlobals "str" = some none)
    (z_tuple : PySem.W.nsIn K mainGlobals "tuple" = some none)
    (z_zip : PySem.W.nsIn K mainGlobals "zip" = some none)
    (neq_Table : PySem.W.findIn K (.ref c_Table) "__ne__" = some (some (.builtin "object.__ne__")))
    (hmO_Table : PySem.W.mroIn K c_Table (.type "object") = some true)
    (hc_Table : PySem.W.findIn K (.ref c_Table) "__class__" = some (some (.builtin "object.__class__"))) :
    ∃ fd : FuncData, (∀ (s : Shared) (v : Value), BindsTo s fd ⟨[v], []⟩ [("_law_script", v)]) ∧ ∀ base : Heap, K.In base → base.Ns mainGlobals mg → FnOk l.prog w K mg base CX0 90 fa fd ["_law_script"] (spL K) := by
  have e := hfa.symm.trans (PySem.W.mg_of X G a_law)
  cases e
  have T : Tx K mg ⟨c_FoldError, c_NoColumns, c_NoRow, c_NoColumn, c_Table, f_is_name, PySem.W.fnOf "is_name" "is_name" (defArgs s_is_name) (defBody s_is_name) (defScope s_is_name) .none kV_is_name dc_is_name pm_is_name an_is_name cd_is_name ct_is_name, f_is_value, PySem.W.fnOf "is_value" "is_value" (defArgs s_is_value) (defBody s_is_value) (defScope s_is_value) .none kV_is_value dc_is_value pm_is_value an_is_value cd_is_value ct_is_value, f_is_row, PySem.W.fnOf "is_row" "is_row" (defArgs s_is_row) (defBody s_is_row) (defScope s_is_row) .none kV_is_row dc_is_row pm_is_row an_is_row cd_is_row ct_is_row, f_want_row, PySem.W.fnOf "want_row" "want_row" (defArgs s_want_row) (defBody s_want_row) (defScope s_want_row) (.ref dT_want_row) kV_want_row dc_want_row pm_want_row an_want_row cd_want_row ct_want_row, f_are_columns, PySem.W.fnOf "are_columns" "are_columns" (defArgs s_are_columns) (defBody s_are_columns) (defScope s_are_columns) .none kV_are_columns dc_are_columns pm_are_columns an_are_columns cd_are_columns ct_are_columns, f_goes_with, PySem.W.fnOf "goes_with" "goes_with" (defArgs s_goes_with) (defBody s_goes_with) (defScope s_goes_with) .none kV_goes_with dc_goes_with pm_goes_with an_goes_with cd_goes_with ct_goes_with, f_joined, PySem.W.fnOf "joined" "joined" (defArgs s_joined) (defBody s_joined) (defScope s_joined) .none kV_joined dc_joined pm_joined an_joined cd_joined ct_joined, f__law_well, PySem.W.fnOf "_law_well" "_law_well" (defArgs s__law_well) (defBody s__law_well) (defScope s__law_well) .none kV__law_well dc__law_well pm__law_well an__law_well cd__law_well ct__law_well, f__law_draw, PySem.W.fnOf "_law_draw" "_law_draw" (defArgs s__law_draw) (defBody s__law_draw) (defScope s__law_draw) .none kV__law_draw dc__law_draw pm__law_draw an__law_draw cd__law_draw ct__law_draw, f__law_names, PySem.W.fnOf "_law_names" "_law_names" (defArgs s__law_names) (defBody s__law_names) (defScope s__law_names) .none kV__law_names dc__law_names pm__law_names an__law_names cd__law_names ct__law_names, f__law_base, PySem.W.fnOf "_law_base" "_law_base" (defArgs s__law_base) (defBody s__law_base) (defScope s__law_base) .none kV__law_base dc__law_base pm__law_base an__law_base cd__law_base ct__law_base, f__law_picked, PySem.W.fnOf "_law_picked" "_law_picked" (defArgs s__law_picked) (defBody s__law_picked) (defScope s__law_picked) .none kV__law_picked dc__law_picked pm__law_picked an__law_picked cd__law_picked ct__law_picked, f__law_made, PySem.W.fnOf "_law_made" "_law_made" (defArgs s__law_made) (defBody s__law_made) (defScope s__law_made) .none kV__law_made dc__law_made pm__law_made an__law_made cd__law_made ct__law_made, f__law_all, PySem.W.fnOf "_law_all" "_law_all" (defArgs s__law_all) (defBody s__law_all) (defScope s__law_all) .none kV__law_all dc__law_all pm__law_all an__law_all cd__law_all ct__law_all, f__law_heads, PySem.W.fnOf "_law_heads" "_law_heads" (defArgs s__law_heads) (defBody s__law_heads) (defScope s__law_heads) .none kV__law_heads dc__law_heads pm__law_heads an__law_heads cd__law_heads ct__law_heads, f__law_wide, PySem.W.fnOf "_law_wide" "_law_wide" (defArgs s__law_wide) (defBody s__law_wide) (defScope s__law_wide) .none kV__law_wide dc__law_wide pm__law_wide an__law_wide cd__law_wide ct__law_wide, f__law_refused, PySem.W.fnOf "_law_refused" "_law_refused" (defArgs s__law_refused) (defBody s__law_refused) (defScope s__law_refused) .none kV__law_refused dc__law_refused pm__law_refused an__law_refused cd__law_refused ct__law_refused, f__law_goes, PySem.W.fnOf "_law_goes" "_law_goes" (defArgs s__law_goes) (defBody s__law_goes) (defScope s__law_goes) .none kV__law_goes dc__law_goes pm__law_goes an__law_goes cd__law_goes ct__law_goes, f__law_right, PySem.W.fnOf "_law_right" "_law_right" (defArgs s__law_right) (defBody s__law_right) (defScope s__law_right) .none kV__law_right dc__law_right pm__law_right an__law_right cd__law_right ct__law_right, fa, PySem.W.fnOf "law" "law" (defArgs s_law) (defBody s_law) (defScope s_law) .none kV_law dc_law pm_law an_law cd_law ct_law, f_NoRow_o___init__, PySem.W.fnOf "__init__" "NoRow.__init__" (defArgs s_NoRow_o___init__) (defBody s_NoRow_o___init__) (defScope s_NoRow_o___init__) .none kV_NoRow_o___init__ dc_NoRow_o___init__ pm_NoRow_o___init__ an_NoRow_o___init__ cd_NoRow_o___init__ ct_NoRow_o___init__, f_Table_o___init__, PySem.W.fnOf "__init__" "Table.__init__" (defArgs s_Table_o___init__) (defBody s_Table_o___init__) (defScope s_Table_o___init__) (.ref dT_Table_o___init__) kV_Table_o___init__ dc_Table_o___init__ pm_Table_o___init__ an_Table_o___init__ cd_Table_o___init__ ct_Table_o___init__, f_Table_o___len__, PySem.W.fnOf "__len__" "Table.__len__" (defArgs s_Table_o___len__) (defBody s_Table_o___len__) (defScope s_Table_o___len__) .none kV_Table_o___len__ dc_Table_o___len__ pm_Table_o___len__ an_Table_o___len__ cd_Table_o___len__ ct_Table_o___len__, f_Table_o___eq__, PySem.W.fnOf "__eq__" "Table.__eq__" (defArgs s_Table_o___eq__) (defBody s_Table_o___eq__) (defScope s_Table_o___eq__) .none kV_Table_o___eq__ dc_Table_o___eq__ pm_Table_o___eq__ an_Table_o___eq__ cd_Table_o___eq__ ct_Table_o___eq__, f_Table_o_columns, PySem.W.fnOf "columns" "Table.columns" (defArgs s_Table_o_columns) (defBody s_Table_o_columns) (defScope s_Table_o_columns) .none kV_Table_o_columns dc_Table_o_columns pm_Table_o_columns an_Table_o_columns cd_Table_o_columns ct_Table_o_columns, f_Table_o_rows, PySem.W.fnOf "rows" "Table.rows" (defArgs s_Table_o_rows) (defBody s_Table_o_rows) (defScope s_Table_o_rows) .none kV_Table_o_rows dc_Table_o_rows pm_Table_o_rows an_Table_o_rows cd_Table_o_rows ct_Table_o_rows⟩ := {
    F_is_name := df_mk (st := s_is_name) l_is_name c1_is_name k1_is_name,
    g_is_name := PySem.W.mg_of X G a_is_name,
    k_is_name := k1_is_name,
    b_is_name := FunD.bindsN (ps := ["thing"]) (df_mk (st := s_is_name) l_is_name c1_is_name k1_is_name) fun _ _ _ _ _ _ us hl => match us, hl with | [_], _ => rfl,
    F_is_value := df_mk (st := s_is_value) l_is_value c1_is_value k1_is_value,
    g_is_value := PySem.W.mg_of X G a_is_value,
    k_is_value := k1_is_value,
    b_is_value := FunD.bindsN (ps := ["thing"]) (df_mk (st := s_is_value) l_is_value c1_is_value k1_is_value) fun _ _ _ _ _ _ us hl => match us, hl with | [_], _ => rfl,
    F_is_row := df_mk (st := s_is_row) l_is_row c1_is_row k1_is_row,
    g_is_row := PySem.W.mg_of X G a_is_row,
    k_is_row := k1_is_row,
    b_is_row := FunD.bindsN (ps := ["thing", "many"]) (df_mk (st := s_is_row) l_is_row c1_is_row k1_is_row) fun _ _ _ _ _ _ us hl => match us, hl with | [_, _], _ => rfl,
    F_want_row := df_mkD l_want_row c1_want_row k1_want_row ld_want_row (by simp) (.cons ⟨_, rfl⟩ .nil),
    g_want_row := PySem.W.mg_of X G a_want_row,
    k_want_row := k1_want_row,
    b_want_row := (by
    obtain ⟨ds, h1, h2⟩ := FunD.binds1 (ps := ["thing", "many", "at"]) (df_mkD (st := s_want_row) (dvs := [.int 0]) l_want_row c1_want_row k1_want_row ld_want_row (by simp) (.cons ⟨_, rfl⟩ .nil)) 3 1 (by simp) rfl fun _ _ _ _ _ _ _ us its h1 h2 => match us, h1, its, h2 with | [_, _, _], _, [_], _ => ⟨_, rfl, rfl⟩
    cases h1
    exact h2),
    F_are_columns := df_mk (st := s_are_columns) l_are_columns c1_are_columns k1_are_columns,
    g_are_columns := PySem.W.mg_of X G a_are_columns,
    k_are_columns := k1_are_columns,
    b_are_columns := FunD.bindsN (ps := ["thing"]) (df_mk (st := s_are_columns) l_are_columns c1_are_columns k1_are_columns) fun _ _ _ _ _ _ us hl => match us, hl with | [_], _ => rfl,
    F_goes_with := df_mk (st := s_goes_with) l_goes_with c1_goes_with k1_goes_with,
    g_goes_with := PySem.W.mg_of X G a_goes_with,
    k_goes_with := k1_goes_with,
    b_goes_with := FunD.bindsN (ps := ["known", "names", "row"]) (df_mk (st := s_goes_with) l_goes_with c1_goes_with k1_goes_with) fun _ _ _ _ _ _ us hl => match us, hl with | [_, _, _], _ => rfl,
    F_joined := df_mk (st := s_joined) l_joined c1_joined k1_joined,
    g_joined := PySem.W.mg_of X G a_joined,
    k_joined := k1_joined,
    b_joined := FunD.bindsN (ps := ["tables"]) (df_mk (st := s_joined) l_joined c1_joined k1_joined) fun _ _ _ _ _ _ us hl => match us, hl with | [_], _ => rfl,
    kp0_joined := kbnP [0] (df_mk (st := s_joined) l_joined c1_joined k1_joined) fun _ _ _ _ _ _ us ws h1 h2 => match us, h1, ws, h2 with | [], _, [_], _ => rfl,
    F__law_well := df_mk (st := s__law_well) l__law_well c1__law_well k1__law_well,
    g__law_well := PySem.W.mg_of X G a__law_well,
    k__law_well := k1__law_well,
    b__law_well := FunD.bindsN (ps := ["_law_cell", "_law_k"]) (df_mk (st := s__law_well) l__law_well c1__law_well k1__law_well) fun _ _ _ _ _ _ us hl => match us, hl with | [_, _], _ => rfl,
    F__law_draw := df_mk (st := s__law_draw) l__law_draw c1__law_draw k1__law_draw,
    g__law_draw := PySem.W.mg_of X G a__law_draw,
    k__law_draw := k1__law_draw,
    b__law_draw := FunD.bindsN (ps := ["_law_well_here", "_law_top"]) (df_mk (st := s__law_draw) l__law_draw c1__law_draw k1__law_draw) fun _ _ _ _ _ _ us hl => match us, hl with | [_, _], _ => rfl,
    F__law_names := df_mk (st := s__law_names) l__law_names c1__law_names k1__law_names,
    g__law_names := PySem.W.mg_of X G a__law_names,
    k__law_names := k1__law_names,
    b__law_names := FunD.bindsN (ps := ["_law_well_here", "_law_count"]) (df_mk (st := s__law_names) l__law_names c1__law_names k1__law_names) fun _ _ _ _ _ _ us hl => match us, hl with | [_, _], _ => rfl,
    F__law_base := df_mk (st := s__law_base) l__law_base c1__law_base k1__law_base,
    g__law_base := PySem.W.mg_of X G a__law_base,
    k__law_base := k1__law_base,
    b__law_base := FunD.bindsN (ps := ["_law_well_here"]) (df_mk (st := s__law_base) l__law_base c1__law_base k1__law_base) fun _ _ _ _ _ _ us hl => match us, hl with | [_], _ => rfl,
    F__law_picked := df_mk (st := s__law_picked) l__law_picked c1__law_picked k1__law_picked,
    g__law_picked := PySem.W.mg_of X G a__law_picked,
    k__law_picked := k1__law_picked,
    b__law_picked := FunD.bindsN (ps := ["_law_well_here", "_law_names_here", "_law_most"]) (df_mk (st := s__law_picked) l__law_picked c1__law_picked k1__law_picked) fun _ _ _ _ _ _ us hl => match us, hl with | [_, _, _], _ => rfl,
    F__law_made := df_mk (st := s__law_made) l__law_made c1__law_made k1__law_made,
    g__law_made := PySem.W.mg_of X G a__law_made,
    k__law_made := k1__law_made,
    b__law_made := FunD.bindsN (ps := ["_law_well_here", "_law_names_here", "_law_base_here"]) (df_mk (st := s__law_made) l__law_made c1__law_made k1__law_made) fun _ _ _ _ _ _ us hl => match us, hl with | [_, _, _], _ => rfl,
    F__law_all := df_mk (st := s__law_all) l__law_all c1__law_all k1__law_all,
    g__law_all := PySem.W.mg_of X G a__law_all,
    k__law_all := k1__law_all,
    b__law_all := FunD.bindsN (ps := ["_law_base_here", "_law_many"]) (df_mk (st := s__law_all) l__law_all c1__law_all k1__law_all) fun _ _ _ _ _ _ us hl => match us, hl with | [_, _], _ => rfl,
    F__law_heads := df_mk (st := s__law_heads) l__law_heads c1__law_heads k1__law_heads,
    g__law_heads := PySem.W.mg_of X G a__law_heads,
    k__law_heads := k1__law_heads,
    b__law_heads := FunD.bindsN (ps := ["_law_made_here"]) (df_mk (st := s__law_heads) l__law_heads c1__law_heads k1__law_heads) fun _ _ _ _ _ _ us hl => match us, hl with | [_], _ => rfl,
    F__law_wide := df_mk (st := s__law_wide) l__law_wide c1__law_wide k1__law_wide,
    g__law_wide := PySem.W.mg_of X G a__law_wide,
    k__law_wide := k1__law_wide,
    b__law_wide := FunD.bindsN (ps := ["_law_well_here"]) (df_mk (st := s__law_wide) l__law_wide c1__law_wide k1__law_wide) fun _ _ _ _ _ _ us hl => match us, hl with | [_], _ => rfl,
    F__law_refused := df_mk (st := s__law_refused) l__law_refused c1__law_refused k1__law_refused,
    g__law_refused := PySem.W.mg_of X G a__law_refused,
    k__law_refused := k1__law_refused,
    b__law_refused := FunD.bindsN (ps := ["_law_some"]) (df_mk (st := s__law_refused) l__law_refused c1__law_refused k1__law_refused) fun _ _ _ _ _ _ us hl => match us, hl with | [_], _ => rfl,
    F__law_goes := df_mk (st := s__law_goes) l__law_goes c1__law_goes k1__law_goes,
    g__law_goes := PySem.W.mg_of X G a__law_goes,
    k__law_goes := k1__law_goes,
    b__law_goes := FunD.bindsN (ps := ["_law_heads_here", "_law_line", "_law_made_here"]) (df_mk (st := s__law_goes) l__law_goes c1__law_goes k1__law_goes) fun _ _ _ _ _ _ us hl => match us, hl with | [_, _, _], _ => rfl,
    F__law_right := df_mk (st := s__law_right) l__law_right c1__law_right k1__law_right,
    g__law_right := PySem.W.mg_of X G a__law_right,
    k__law_right := k1__law_right,
    b__law_right := FunD.bindsN (ps := ["_law_well_here"]) (df_mk (st := s__law_right) l__law_right c1__law_right k1__law_right) fun _ _ _ _ _ _ us hl => match us, hl with | [_], _ => rfl,
    F_law := df_mk (st := s_law) l_law c1_law k1_law,
    g_law := PySem.W.mg_of X G a_law,
    k_law := k1_law,
    b_law := FunD.bindsN (ps := ["_law_script"]) (df_mk (st := s_law) l_law c1_law k1_law) fun _ _ _ _ _ _ us hl => match us, hl with | [_], _ => rfl,
    F_NoRow_o___init__ := df_mk (st := s_NoRow_o___init__) l_NoRow_o___init__ c1_NoRow_o___init__ k1_NoRow_o___init__,
    k_NoRow_o___init__ := k1_NoRow_o___init__,
    b_NoRow_o___init__ := FunD.bindsN (ps := ["self", "at"]) (df_mk (st := s_NoRow_o___init__) l_NoRow_o___init__ c1_NoRow_o___init__ k1_NoRow_o___init__) fun _ _ _ _ _ _ us hl => match us, hl with | [_, _], _ => rfl,
    F_Table_o___init__ := df_mkD l_Table_o___init__ c1_Table_o___init__ k1_Table_o___init__ ld_Table_o___init__ (by simp) (.cons rfl .nil),
    k_Table_o___init__ := k1_Table_o___init__,
    b_Table_o___init__ := (by
    obtain ⟨ds, h1, h2⟩ := FunD.binds1 (ps := ["self", "columns", "rows"]) (df_mkD (st := s_Table_o___init__) (dvs := [.non]) l_Table_o___init__ c1_Table_o___init__ k1_Table_o___init__ ld_Table_o___init__ (by simp) (.cons rfl .nil)) 3 1 (by simp) rfl fun _ _ _ _ _ _ _ us its h1 h2 => match us, h1, its, h2 with | [_, _, _], _, [_], _ => ⟨_, rfl, rfl⟩
    cases h1
    exact h2),
    bx1_Table_o___init__ := FunD.binds1 (ps := ["self", "columns", "rows"]) (df_mkD (st := s_Table_o___init__) (dvs := [.non]) l_Table_o___init__ c1_Table_o___init__ k1_Table_o___init__ ld_Table_o___init__ (by simp) (.cons rfl .nil)) 2 0 (by simp) rfl fun _ _ _ _ _ _ _ us its h1 h2 => match us, h1, its, h2 with | [_, _], _, [_], _ => ⟨_, rfl, rfl⟩,
    F_Table_o___len__ := df_mk (st := s_Table_o___len__) l_Table_o___len__ c1_Table_o___len__ k1_Table_o___len__,
    k_Table_o___len__ := k1_Table_o___len__,
    b_Table_o___len__ := FunD.bindsN (ps := ["self"]) (df_mk (st := s_Table_o___len__) l_Table_o___len__ c1_Table_o___len__ k1_Table_o___len__) fun _ _ _ _ _ _ us hl => match us, hl with | [_], _ => rfl,
    F_Table_o___eq__ := df_mk (st := s_Table_o___eq__) l_Table_o___eq__ c1_Table_o___eq__ k1_Table_o___eq__,
    k_Table_o___eq__ := k1_Table_o___eq__,
    b_Table_o___eq__ := FunD.bindsN (ps := ["self", "other"]) (df_mk (st := s_Table_o___eq__) l_Table_o___eq__ c1_Table_o___eq__ k1_Table_o___eq__) fun _ _ _ _ _ _ us hl => match us, hl with | [_, _], _ => rfl,
    F_Table_o_columns := df_mk (st := s_Table_o_columns) l_Table_o_columns c1_Table_o_columns k1_Table_o_columns,
    k_Table_o_columns := k1_Table_o_columns,
    b_Table_o_columns := FunD.bindsN (ps := ["self"]) (df_mk (st := s_Table_o_columns) l_Table_o_columns c1_Table_o_columns k1_Table_o_columns) fun _ _ _ _ _ _ us hl => match us, hl with | [_], _ => rfl,
    m_Table_o_columns := ⟨a_Table_o_columns, i1_Table_o_columns, k1_Table_o_columns⟩,
    F_Table_o_rows := df_mk (st := s_Table_o_rows) l_Table_o_rows c1_Table_o_rows k1_Table_o_rows,
    k_Table_o_rows := k1_Table_o_rows,
    b_Table_o_rows := FunD.bindsN (ps := ["self"]) (df_mk (st := s_Table_o_rows) l_Table_o_rows c1_Table_o_rows k1_Table_o_rows) fun _ _ _ _ _ _ us hl => match us, hl with | [_], _ => rfl,
    m_Table_o_rows := ⟨a_Table_o_rows, i1_Table_o_rows, k1_Table_o_rows⟩,
    gc_FoldError := PySem.W.mg_of X G gc_FoldError,
    sp_FoldError := sp_FoldError,
    rd_FoldError := rd_FoldError,
    fc_FoldError := fc_FoldError,
    gc_NoColumns := PySem.W.mg_of X G gc_NoColumns,
    xi_NoColumns := xi_NoColumns,
    kc_NoColumns := kc_NoColumns,
    xb_NoColumns := eC_NoColumns,
    xt_NoColumns := tC_NoColumns,
    xc_NoColumns := ⟨ga_NoColumns, gg_NoColumns, eC_NoColumns, hd_NoColumns, hc_NoColumns, hnO, htO, hm_NoColumns⟩,
    gc_NoRow := PySem.W.mg_of X G gc_NoRow,
    ox_NoRow := ⟨⟨_, _, _, _, _, _, _, _, _, _, _, _, _, _, _, xL_NoRow, rv_NoRow⟩, sa_NoRow, eC_NoRow, tC_NoRow, kc_NoRow⟩,
    iC_NoRow := a_NoRow_o___init__,
    tI_NoRow := tI_NoRow,
    gc_NoColumn := PySem.W.mg_of X G gc_NoColumn,
    gc_Table := PySem.W.mg_of X G gc_Table,
    cl_Table := ⟨pg_Table, hd_Table, po_Table, sa_Table⟩,
    mk_Table := ⟨mk_Table, a_Table_o___init__, i1_Table_o___init__, kc_Table⟩,
    fl_Table := a_Table_o___len__,
    il_Table := i1_Table_o___len__,
    eq_Table := ⟨a_Table_o___eq__, neq_Table, i1_Table_o___eq__, hmO_Table, ⟨pg_Table, hd_Table, po_Table, sa_Table⟩, hc_Table, hnO, htO⟩,
    ex_NoColumns_FoldError := ex_NoColumns_FoldError,
    ki_NoColumns_NoColumn := ki_NoColumns_NoColumn,
    ki_NoColumns_NoRow := ki_NoColumns_NoRow,
    ki_NoneType_Table := ki_NoneType_Table,
    ki_bool_Table := ki_bool_Table,
    ki_dict_Table := ki_dict_Table,
    ki_int_Table := ki_int_Table,
    ki_list_Table := ki_list_Table,
    ki_str_Table := ki_str_Table,
    ki_tuple_Table := ki_tuple_Table,
    kt_NoColumns_NoColumns := kt_NoColumns_NoColumns,
    kt_Table_Table := kt_Table_Table,
    na_NoRow_o_at := na_NoRow_o_at,
    na_Table_o_held := na_Table_o_held,
    na_Table_o_named := na_Table_o_named,
    v_LETTERS := ⟨_, PySem.W.mg_of X G v_LETTERS, ⟨_, rfl⟩⟩,
    v_LONGEST_NAME := ⟨_, PySem.W.mg_of X G v_LONGEST_NAME, ⟨_, rfl⟩⟩,
    v_MOST_COLUMNS := ⟨_, PySem.W.mg_of X G v_MOST_COLUMNS, ⟨_, rfl⟩⟩,
    z_all := PySem.W.mg_none_of X G z_all,
    z_bool := PySem.W.mg_none_of X G z_bool,
    z_dict := PySem.W.mg_none_of X G z_dict,
    z_enumerate := PySem.W.mg_none_of X G z_enumerate,
    z_int := PySem.W.mg_none_of X G z_int,
    z_isinstance := PySem.W.mg_none_of X G z_isinstance,
    z_len := PySem.W.mg_none_of X G z_len,
    z_list := PySem.W.mg_none_of X G z_list,
    z_min := PySem.W.mg_none_of X G z_min,
    z_range := PySem.W.mg_none_of X G z_range,
    z_set := PySem.W.mg_none_of X G z_set,
    z_sorted := PySem.W.mg_none_of X G z_sorted,
    z_str := PySem.W.mg_none_of X G z_str,
    z_tuple := PySem.W.mg_none_of X G z_tuple,
    z_zip := PySem.W.mg_none_of X G z_zip }
  exact ⟨_, fun s v => .of_eq rfl, fun base _ _ => ok_law T⟩
end Law
open PySem PySem.W PyProof.Rows in
set_option maxRecDepth 100000 in
set_option maxHeartbeats 0 in
theorem PySem.Challenge.cw_foldbough_k05_all_rows_that_go_together_holds : PySem.Challenge.rw_foldbough_k05_all_rows_that_go_together.Holds := by
  refine hd_top ?_
  k_fill
  refine DL.walkL (l := PySem.Challenge.rw_foldbough_k05_all_rows_that_go_together) (k := 90) ⟨rfl, by decide, by decide⟩ rfl rfl (fun w h Y => PySem.W.kIn_of Y) ?F
  case F =>
    intro w mg fa h KX G hmg
    refine' Law.all_mk KX G hmg ?gc_FoldError ?gc_NoColumns ?gc_NoRow ?gc_NoColumn ?gc_Table ?a_is_name ?a_is_value ?a_is_row ?a_want_row ?a_are_columns ?a_goes_with ?a_joined ?a__law_well ?a__law_draw ?a__law_names ?a__law_base ?a__law_picked ?a__law_made ?a__law_all ?a__law_heads ?a__law_wide ?a__law_refused ?a__law_goes ?a__law_right ?a_law ?a_NoRow_o___init__ ?a_Table_o___init__ ?a_Table_o___len__ ?a_Table_o___eq__ ?a_Table_o_columns ?a_Table_o_rows ?l_is_name ?l_is_value ?l_is_row ?l_want_row ?ld_want_row ?l_are_columns ?l_goes_with ?l_joined ?l__law_well ?l__law_draw ?l__law_names ?l__law_base ?l__law_picked ?l__law_made ?l__law_all ?l__law_heads ?l__law_wide ?l__law_refused ?l__law_goes ?l__law_right ?l_law ?l_NoRow_o___init__ ?l_Table_o___init__ ?ld_Table_o___init__ ?l_Table_o___len__ ?l_Table_o___eq__ ?l_Table_o_columns ?l_Table_o_rows ?c1_is_name ?k1_is_name ?c1_is_value ?k1_is_value ?c1_is_row ?k1_is_row ?c1_want_row ?k1_want_row ?c1_are_columns ?k1_are_columns ?c1_goes_with ?k1_goes_with ?c1_joined ?k1_joined ?c1__law_well ?k1__law_well ?c1__law_draw ?k1__law_draw ?c1__law_names ?k1__law_names ?c1__law_base ?k1__law_base ?c1__law_picked ?k1__law_picked ?c1__law_made ?k1__law_made ?c1__law_all ?k1__law_all ?c1__law_heads ?k1__law_heads ?c1__law_wide ?k1__law_wide ?c1__law_refused ?k1__law_refused ?c1__law_goes ?k1__law_goes ?c1__law_right ?k1__law_right ?c1_law ?k1_law ?c1_NoRow_o___init__ ?k1_NoRow_o___init__ ?c1_Table_o___init__ ?k1_Table_o___init__ ?i1_Table_o___init__ ?c1_Table_o___len__ ?k1_Table_o___len__ ?i1_Table_o___len__ ?c1_Table_o___eq__ ?k1_Table_o___eq__ ?i1_Table_o___eq__ ?c1_Table_o_columns ?k1_Table_o_columns ?i1_Table_o_columns ?c1_Table_o_rows ?k1_Table_o_rows ?i1_Table_o_rows ?sp_FoldError ?rd_FoldError ?fc_FoldError ?eC_NoColumns ?tC_NoColumns ?kc_NoColumns ?xi_NoColumns ?ga_NoColumns ?gg_NoColumns ?hd_NoColumns ?hc_NoColumns ?hnO ?htO ?hm_NoColumns ?eC_NoRow ?tC_NoRow ?kc_NoRow ?xL_NoRow ?rv_NoRow ?sa_NoRow ?tI_NoRow ?pg_Table ?hd_Table ?po_Table ?sa_Table ?mk_Table ?kc_Table ?ex_NoColumns_FoldError ?ki_NoColumns_NoColumn ?ki_NoColumns_NoRow ?ki_NoneType_Table ?ki_bool_Table ?ki_dict_Table ?ki_int_Table ?ki_list_Table ?ki_str_Table ?ki_tuple_Table ?kt_NoColumns_NoColumns ?kt_Table_Table ?na_NoRow_o_at ?na_Table_o_held ?na_Table_o_named ?v_LETTERS ?v_LONGEST_NAME ?v_MOST_COLUMNS ?z_all ?z_bool ?z_dict ?z_enumerate ?z_int ?z_isinstance ?z_len ?z_list ?z_min ?z_range ?z_set ?z_sorted ?z_str ?z_tuple ?z_zip ?neq_Table ?hmO_Table ?hc_Table
    (case gc_FoldError => first | k_is | rfl | decide +kernel)
    (case gc_NoColumns => first | k_is | rfl | decide +kernel)
    (case gc_NoRow => first | k_is | rfl | decide +kernel)
    (case gc_NoColumn => first | k_is | rfl | decide +kernel)
    (case gc_Table => first | k_is | rfl | decide +kernel)
    (case a_is_name => first | k_is | rfl | decide +kernel)
    (case a_is_value => first | k_is | rfl | decide +kernel)
    (case a_is_row => first | k_is | rfl | decide +kernel)
    (case a_want_row => first | k_is | rfl | decide +kernel)
    (case a_are_columns => first | k_is | rfl | decide +kernel)
    (case a_goes_with => first | k_is | rfl | decide +kernel)
    (case a_joined => first | k_is | rfl | decide +kernel)
    (case a__law_well => first | k_is | rfl | decide +kernel)
    (case a__law_draw => first | k_is | rfl | decide +kernel)
    (case a__law_names => first | k_is | rfl | decide +kernel)
    (case a__law_base => first | k_is | rfl | decide +kernel)
    (case a__law_picked => first | k_is | rfl | decide +kernel)
    (case a__law_made => first | k_is | rfl | decide +kernel)
    (case a__law_all => first | k_is | rfl | decide +kernel)
    (case a__law_heads => first | k_is | rfl | decide +kernel)
    (case a__law_wide => first | k_is | rfl | decide +kernel)
    (case a__law_refused => first | k_is | rfl | decide +kernel)
    (case a__law_goes => first | k_is | rfl | decide +kernel)
    (case a__law_right => first | k_is | rfl | decide +kernel)
    (case a_law => first | k_is | rfl | decide +kernel)
    (case a_NoRow_o___init__ => first | k_is | rfl | decide +kernel)
    (case a_Table_o___init__ => first | k_is | rfl | decide +kernel)
    (case a_Table_o___len__ => first | k_is | rfl | decide +kernel)
    (case a_Table_o___eq__ => first | k_is | rfl | decide +kernel)
    (case a_Table_o_columns => first | k_is | rfl | decide +kernel)
    (case a_Table_o_rows => first | k_is | rfl | decide +kernel)
    (case l_is_name => first | k_is | rfl | decide +kernel)
    (case l_is_value => first | k_is | rfl | decide +kernel)
    (case l_is_row => first | k_is | rfl | decide +kernel)
    (case l_want_row => first | k_is | rfl | decide +kernel)
    (case ld_want_row => first | k_is | rfl | decide +kernel)
    (case l_are_columns => first | k_is | rfl | decide +kernel)
    (case l_goes_with => first | k_is | rfl | decide +kernel)
    (case l_joined => first | k_is | rfl | decide +kernel)
    (case l__law_well => first | k_is | rfl | decide +kernel)
    (case l__law_draw => first | k_is | rfl | decide +kernel)
    (case l__law_names => first | k_is | rfl | decide +kernel)
    (case l__law_base => first | k_is | rfl | decide +kernel)
    (case l__law_picked => first | k_is | rfl | decide +kernel)
    (case l__law_made => first | k_is | rfl | decide +kernel)
    (case l__law_all => first | k_is | rfl | decide +kernel)
    (case l__law_heads => first | k_is | rfl | decide +kernel)
    (case l__law_wide => first | k_is | rfl | decide +kernel)
    (case l__law_refused => first | k_is | rfl | decide +kernel)
    (case l__law_goes => first | k_is | rfl | decide +kernel)
    (case l__law_right => first | k_is | rfl | decide +kernel)
    (case l_law => first | k_is | rfl | decide +kernel)
    (case l_NoRow_o___init__ => first | k_is | rfl | decide +kernel)
    (case l_Table_o___init__ => first | k_is | rfl | decide +kernel)
    (case ld_Table_o___init__ => first | k_is | rfl | decide +kernel)
    (case l_Table_o___len__ => first | k_is | rfl | decide +kernel)
    (case l_Table_o___eq__ => first | k_is | rfl | decide +kernel)
    (case l_Table_o_columns => first | k_is | rfl | decide +kernel)
    (case l_Table_o_rows => first | k_is | rfl | decide +kernel)
    (case c1_is_name => first | k_is | rfl | decide +kernel)
    (case k1_is_name => first | k_is | rfl | decide +kernel)
    (case c1_is_value => first | k_is | rfl | decide +kernel)
    (case k1_is_value => first | k_is | rfl | decide +kernel)
    (case c1_is_row => first | k_is | rfl | decide +kernel)
    (case k1_is_row => first | k_is | rfl | decide +kernel)
    (case c1_want_row => first | k_is | rfl | decide +kernel)
    (case k1_want_row => first | k_is | rfl | decide +kernel)
    (case c1_are_columns => first | k_is | rfl | decide +kernel)
    (case k1_are_columns => first | k_is | rfl | decide +kernel)
    (case c1_goes_with => first | k_is | rfl | decide +kernel)
    (case k1_goes_with => first | k_is | rfl | decide +kernel)
    (case c1_joined => first | k_is | rfl | decide +kernel)
    (case k1_joined => first | k_is | rfl | decide +kernel)
    (case c1__law_well => first | k_is | rfl | decide +kernel)
    (case k1__law_well => first | k_is | rfl | decide +kernel)
    (case c1__law_draw => first | k_is | rfl | decide +kernel)
    (case k1__law_draw => first | k_is | rfl | decide +kernel)
    (case c1__law_names => first | k_is | rfl | decide +kernel)
    (case k1__law_names => first | k_is | rfl | decide +kernel)
    (case c1__law_base => first | k_is | rfl | decide +kernel)
    (case k1__law_base => first | k_is | rfl | decide +kernel)
    (case c1__law_picked => first | k_is | rfl | decide +kernel)
    (case k1__law_picked => first | k_is | rfl | decide +kernel)
    (case c1__law_made => first | k_is | rfl | decide +kernel)
    (case k1__law_made => first | k_is | rfl | decide +kernel)
    (case c1__law_all => first | k_is | rfl | decide +kernel)
    (case k1__law_all => first | k_is | rfl | decide +kernel)
    (case c1__law_heads => first | k_is | rfl | decide +kernel)
    (case k1__law_heads => first | k_is | rfl | decide +kernel)
    (case c1__law_wide => first | k_is | rfl | decide +kernel)
    (case k1__law_wide => first | k_is | rfl | decide +kernel)
    (case c1__law_refused => first | k_is | rfl | decide +kernel)
    (case k1__law_refused => first | k_is | rfl | decide +kernel)
    (case c1__law_goes => first | k_is | rfl | decide +kernel)
    (case k1__law_goes => first | k_is | rfl | decide +kernel)
    (case c1__law_right => first | k_is | rfl | decide +kernel)
    (case k1__law_right => first | k_is | rfl | decide +kernel)
    (case c1_law => first | k_is | rfl | decide +kernel)
    (case k1_law => first | k_is | rfl | decide +kernel)
    (case c1_NoRow_o___init__ => first | k_is | rfl | decide +kernel)
    (case k1_NoRow_o___init__ => first | k_is | rfl | decide +kernel)
    (case c1_Table_o___init__ => first | k_is | rfl | decide +kernel)
    (case k1_Table_o___init__ => first | k_is | rfl | decide +kernel)
    (case i1_Table_o___init__ => first | k_is | rfl | decide +kernel)
    (case c1_Table_o___len__ => first | k_is | rfl | decide +kernel)
    (case k1_Table_o___len__ => first | k_is | rfl | decide +kernel)
    (case i1_Table_o___len__ => first | k_is | rfl | decide +kernel)
    (case c1_Table_o___eq__ => first | k_is | rfl | decide +kernel)
    (case k1_Table_o___eq__ => first | k_is | rfl | decide +kernel)
    (case i1_Table_o___eq__ => first | k_is | rfl | decide +kernel)
    (case c1_Table_o_columns => first | k_is | rfl | decide +kernel)
    (case k1_Table_o_columns => first | k_is | rfl | decide +kernel)
    (case i1_Table_o_columns => first | k_is | rfl | decide +kernel)
    (case c1_Table_o_rows => first | k_is | rfl | decide +kernel)
    (case k1_Table_o_rows => first | k_is | rfl | decide +kernel)
    (case i1_Table_o_rows => first | k_is | rfl | decide +kernel)
    (case sp_FoldError => first | k_is | rfl | decide +kernel)
    (case rd_FoldError => first | k_is | rfl | decide +kernel)
    (case fc_FoldError => first | k_is | rfl | decide +kernel)
    (case eC_NoColumns => first | k_is | rfl | decide +kernel)
    (case tC_NoColumns => first | k_is | rfl | decide +kernel)
    (case kc_NoColumns => first | k_is | rfl | decide +kernel)
    (case xi_NoColumns => k_exc)
    (case ga_NoColumns => first | k_is | rfl | decide +kernel)
    (case gg_NoColumns => first | k_is | rfl | decide +kernel)
    (case hd_NoColumns => first | k_is | rfl | decide +kernel)
    (case hc_NoColumns => first | k_is | rfl | decide +kernel)
    (case hnO => first | k_is | rfl | decide +kernel)
    (case htO => first | k_is | rfl | decide +kernel)
    (case hm_NoColumns => first | k_is | rfl | decide +kernel)
    (case eC_NoRow => first | k_is | rfl | decide +kernel)
    (case tC_NoRow => first | k_is | rfl | decide +kernel)
    (case kc_NoRow => first | k_is | rfl | decide +kernel)
    (case xL_NoRow => first | k_is | rfl | decide +kernel)
    (case rv_NoRow => decide +kernel)
    (case sa_NoRow => first | k_is | rfl | decide +kernel)
    (case tI_NoRow => first | k_is | rfl | decide +kernel)
    (case pg_Table => first | k_is | rfl | decide +kernel)
    (case hd_Table => first | k_is | rfl | decide +kernel)
    (case po_Table => first | k_is | rfl | decide +kernel)
    (case sa_Table => first | k_is | rfl | decide +kernel)
    (case mk_Table => first | k_is | rfl | decide +kernel)
    (case kc_Table => first | k_is | rfl | decide +kernel)
    (case ex_NoColumns_FoldError => first | k_is | rfl | decide +kernel)
    (case ki_NoColumns_NoColumn => first | k_is | rfl | decide +kernel)
    (case ki_NoColumns_NoRow => first | k_is | rfl | decide +kernel)
    (case ki_NoneType_Table => first | k_is | rfl | decide +kernel)
    (case ki_bool_Table => first | k_is | rfl | decide +kernel)
    (case ki_dict_Table => first | k_is | rfl | decide +kernel)
    (case ki_int_Table => first | k_is | rfl | decide +kernel)
    (case ki_list_Table => first | k_is | rfl | decide +kernel)
    (case ki_str_Table => first | k_is | rfl | decide +kernel)
    (case ki_tuple_Table => first | k_is | rfl | decide +kernel)
    (case kt_NoColumns_NoColumns => first | k_is | rfl | decide +kernel)
    (case kt_Table_Table => first | k_is | rfl | decide +kernel)
    (case na_NoRow_o_at => first | k_is | rfl | decide +kernel)
    (case na_Table_o_held => first | k_is | rfl | decide +kernel)
    (case na_Table_o_named => first | k_is | rfl | decide +kernel)
    (case v_LETTERS => first | k_is | rfl | decide +kernel)
    (case v_LONGEST_NAME => first | k_is | rfl | decide +kernel)
    (case v_MOST_COLUMNS => first | k_is | rfl | decide +kernel)
    (case z_all => first | k_is | rfl | decide +kernel)
    (case z_bool => first | k_is | rfl | decide +kernel)
    (case z_dict => first | k_is | rfl | decide +kernel)
    (case z_enumerate => first | k_is | rfl | decide +kernel)
    (case z_int => first | k_is | rfl | decide +kernel)
    (case z_isinstance => first | k_is | rfl | decide +kernel)
    (case z_len => first | k_is | rfl | decide +kernel)
    (case z_list => first | k_is | rfl | decide +kernel)
    (case z_min => first | k_is | rfl | decide +kernel)
    (case z_range => first | k_is | rfl | decide +kernel)
    (case z_set => first | k_is | rfl | decide +kernel)
    (case z_sorted => first | k_is | rfl | decide +kernel)
    (case z_str => first | k_is | rfl | decide +kernel)
    (case z_tuple => first | k_is | rfl | decide +kernel)
    (case z_zip => first | k_is | rfl | decide +kernel)
    (case neq_Table => first | k_is | rfl | decide +kernel)
    (case hmO_Table => first | k_is | rfl | decide +kernel)
    (case hc_Table => first | k_is | rfl | decide +kernel)
