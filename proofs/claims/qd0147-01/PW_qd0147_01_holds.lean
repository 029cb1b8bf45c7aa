import PyProof.Rows.All
import Wide.All
import OpenK.AllK
import Wide.FinOn
import Lean
import PySem.Challenge.RW_qd0147_01
set_option compiler.extract_closed false
set_option linter.all false
set_option genSizeOf false
set_option genInjectivity false
def PySem.W.Fast.tw5810566510885588398 : Unit := ()
def PySem.W.Fast.tw3578923988131111148 : Unit := ()
def PySem.W.Fast.tw12985329060892640981 : Unit := ()
def PySem.W.Fast.tw10698618801298633793 : Unit := ()
def PySem.W.Fast.tw11964638069331594483 : Unit := ()
def PySem.W.Fast.tw11373380316566804331 : Unit := ()
def PySem.W.Fast.tw15322924977416821712 : Unit := ()
def PySem.W.Fast.tw15930893558350727705 : Unit := ()
def PySem.W.Fast.tw4174049640664121235 : Unit := ()
def PySem.W.Fast.tw10270232151460115838 : Unit := ()
def PySem.W.Fast.tw9804505422697996112 : Unit := ()
def PySem.W.Fast.tw1250072257589680724 : Unit := ()
def PySem.W.Fast.tw8519632068155070283 : Unit := ()
def PySem.W.Fast.tw7350230886168056836 : Unit := ()
def PySem.W.Fast.tw6170367583411503908 : Unit := ()
def PySem.W.Fast.tw7097895649412617562 : Unit := ()
def PySem.W.Fast.tw17517028834443792642 : Unit := ()
def PySem.W.Fast.tw182905923901357201 : Unit := ()
def PySem.W.Fast.tw9432448836224230557 : Unit := ()
def PySem.W.Fast.tw1467994975604170842 : Unit := ()
def PySem.W.Fast.tw1685967307860166875 : Unit := ()
def PySem.W.Fast.tw86688857714089130 : Unit := ()
def PySem.W.Fast.tw4199373580869005355 : Unit := ()
def PySem.W.Fast.tw7509664740323264749 : Unit := ()
def PySem.W.Fast.tw4254759905417533751 : Unit := ()
def PySem.W.Fast.tw14563779426241957982 : Unit := ()
def PySem.W.Fast.tw6399695810896708241 : Unit := ()
def PySem.W.Fast.tw359321831430071410 : Unit := ()
def PySem.W.Fast.tw4235142444101570902 : Unit := ()
def PySem.W.Fast.tw3389722045823070620 : Unit := ()
def PySem.W.Fast.tw4744998357756567513 : Unit := ()
def PySem.W.Fast.tw1356118886138156791 : Unit := ()
def PySem.W.Fast.tw4604337893178916915 : Unit := ()
def PySem.W.Fast.tw12834390324731543474 : Unit := ()
def PySem.W.Fast.tw9425893862980610349 : Unit := ()
def PySem.W.Fast.tw8236567321538149760 : Unit := ()
def PySem.W.Fast.tw12472441022300434507 : Unit := ()
def PySem.W.Fast.tw15556859418065378706 : Unit := ()
def PySem.W.Fast.tw18175197330564129253 : Unit := ()
def PySem.W.Fast.tw6704996971759313750 : Unit := ()
def PySem.W.Fast.tw5323354009487122955 : Unit := ()
def PySem.W.Fast.tw9289646308057276970 : Unit := ()
def PySem.W.Fast.tw15662251291172155750 : Unit := ()
def PySem.W.Fast.tw3414255953753146940 : Unit := ()
def PySem.W.Fast.tw9009534156491715023 : Unit := ()
def PySem.W.Fast.tw5072351160120850599 : Unit := ()
def PySem.W.Fast.tw14951182121656273819 : Unit := ()
def PySem.W.Fast.tw3444530844309709235 : Unit := ()
def PySem.W.Fast.tw5461305069775906038 : Unit := ()
def PySem.W.Fast.tw10914688305822425398 : Unit := ()
def PySem.W.Fast.tw17307815235373297921 : Unit := ()
def PySem.W.Fast.tw4074945450301247791 : Unit := ()
def PySem.W.Fast.tw11322498308438654321 : Unit := ()
def PySem.W.Fast.tw15641323515649296801 : Unit := ()
def PySem.W.Fast.tw17244681482761210738 : Unit := ()
def PySem.W.Fast.tw11429753012899440513 : Unit := ()
def PySem.W.Fast.tw9221709223202778782 : Unit := ()
def PySem.W.Fast.tw5856264819112728020 : Unit := ()
def PySem.W.Fast.tw2380342486378015795 : Unit := ()
def PySem.W.Fast.tw2767922137636188828 : Unit := ()
def PySem.W.Fast.tw13434714201406150082 : Unit := ()
def PySem.W.Fast.tw11941347885321003495 : Unit := ()
def PySem.W.Fast.tw5054211826042010861 : Unit := ()
def PySem.W.Fast.tw2667845087509704984 : Unit := ()
def PySem.W.Fast.tw12250188158928933967 : Unit := ()
def PySem.W.Fast.tw627726345350196685 : Unit := ()
def PySem.W.Fast.tw1527682920316557403 : Unit := ()
def PySem.W.Fast.tw9933423790191377825 : Unit := ()
def PySem.W.Fast.tw16671656765224999657 : Unit := ()
def PySem.W.Fast.tw7014686596129358684 : Unit := ()
def PySem.W.Fast.tw12489859137160638183 : Unit := ()
def PySem.W.Fast.tw4473579790951008519 : Unit := ()
def PySem.W.Fast.tw623393167126745931 : Unit := ()
def PySem.W.Fast.tw6554133979109289938 : Unit := ()
def PySem.W.Fast.tw12956513119201107808 : Unit := ()
def PySem.W.Fast.tw6192833057441275720 : Unit := ()
def PySem.W.Fast.tw9887084238740129302 : Unit := ()
def PySem.W.Fast.tw7712762406256171547 : Unit := ()
def PySem.W.Fast.tw16816451006675497786 : Unit := ()
def PySem.W.Fast.tw13272668960339457100 : Unit := ()
def PySem.W.Fast.tw10416174477018928935 : Unit := ()
def PySem.W.Fast.tw8414118510264235524 : Unit := ()
def PySem.W.Fast.tw10613362952539325962 : Unit := ()
def PySem.W.Fast.tw5685012889404086773 : Unit := ()
def PySem.W.Fast.tw4012737230087577653 : Unit := ()
def PySem.W.Fast.tw4087206373667485235 : Unit := ()
def PySem.W.Fast.tw5364537132826300187 : Unit := ()
def PySem.W.Fast.tw5831640473916644875 : Unit := ()
def PySem.W.Fast.tw6013732886842322007 : Unit := ()
def PySem.W.Fast.tw9363833089418762066 : Unit := ()
def PySem.W.Fast.tw8545714031911281488 : Unit := ()
def PySem.W.Fast.tw16606472344305756481 : Unit := ()
def PySem.W.Fast.tw1663260961033258568 : Unit := ()
def PySem.W.Fast.tw3182763890695364533 : Unit := ()
def PySem.W.Fast.tw1160264754289278182 : Unit := ()
def PySem.W.Fast.tw9151933544660887115 : Unit := ()
def PySem.W.Fast.tw4078744162081083862 : Unit := ()
def PySem.W.Fast.tw8498123592928898860 : Unit := ()
def PySem.W.Fast.tw17497941776243628536 : Unit := ()
def PySem.W.Fast.tw17365513679927547080 : Unit := ()
def PySem.W.Fast.tw11381779574374198173 : Unit := ()
def PySem.W.Fast.tw7061000794529931991 : Unit := ()
def PySem.W.Fast.tw6535926744727866155 : Unit := ()
def PySem.W.Fast.tw6823336974982378398 : Unit := ()
def PySem.W.Fast.tw793130347288959169 : Unit := ()
def PySem.W.Fast.tw14722842937253218453 : Unit := ()
def PySem.W.Fast.tw9545677033634119560 : Unit := ()
def PySem.W.Fast.tw10384670766574601406 : Unit := ()
def PySem.W.Fast.tw15156541167523411284 : Unit := ()
def PySem.W.Fast.tw10226805609177620437 : Unit := ()
def PySem.W.Fast.tw6789616505058805132 : Unit := ()
def PySem.W.Fast.tw18437486690731628253 : Unit := ()
def PySem.W.Fast.tw13991439432678006209 : Unit := ()
def PySem.W.Fast.tw11557400564275816454 : Unit := ()
def PySem.W.Fast.tw10778925739577648204 : Unit := ()
def PySem.W.Fast.tw9021754870494236408 : Unit := ()
def PySem.W.Fast.tw7628517622463246403 : Unit := ()
def PySem.W.Fast.tw7879725201748948576 : Unit := ()
def PySem.W.Fast.tw6167152642095586185 : Unit := ()
def PySem.W.Fast.tw7785981886933687848 : Unit := ()
def PySem.W.Fast.tw3157655322189342288 : Unit := ()
def PySem.W.Fast.tw8434112633483761001 : Unit := ()
def PySem.W.Fast.tw10745028784760682568 : Unit := ()
def PySem.W.Fast.tw8651544663034740275 : Unit := ()
def PySem.W.Fast.tw17527557582173027222 : Unit := ()
def PySem.W.Fast.tw11912097832835978016 : Unit := ()
def PySem.W.Fast.tw15887231830638088997 : Unit := ()
def PySem.W.Fast.tw6574162330536261823 : Unit := ()
def PySem.W.Fast.tw14235196972499271967 : Unit := ()
def PySem.W.Fast.tw14339529208003565878 : Unit := ()
def PySem.W.Fast.tw6929076949109133105 : Unit := ()
def PySem.W.Fast.tw6071590912136690200 : Unit := ()
def PySem.W.Fast.tw12092635750267714463 : Unit := ()
def PySem.W.Fast.tw1153111071504360225 : Unit := ()
def PySem.W.Fast.tw1349905137090614705 : Unit := ()
def PySem.W.Fast.tw1160215725700746923 : Unit := ()
def PySem.W.Fast.tw16260925912512855970 : Unit := ()
def PySem.W.Fast.tw1173804465589142111 : Unit := ()
def PySem.W.Fast.tw2449584457684994207 : Unit := ()
def PySem.W.Fast.tw1060621554623183737 : Unit := ()
def PySem.W.Fast.tw6890056427489797719 : Unit := ()
def PySem.W.Fast.tw15943358354443407231 : Unit := ()
def PySem.W.Fast.tw11299914399528532252 : Unit := ()
def PySem.W.Fast.tw11048016841430169741 : Unit := ()
def PySem.W.Fast.tw2373543394765977276 : Unit := ()
def PySem.W.Fast.tw17285904917583305627 : Unit := ()
def PySem.W.Fast.tw773837588089752436 : Unit := ()
def PySem.W.Fast.tw1496200957944681917 : Unit := ()
def PySem.W.Fast.tw11101490830900998463 : Unit := ()
def PySem.W.Fast.tw1293136840990413523 : Unit := ()
def PySem.W.Fast.tw4525628798758225912 : Unit := ()
def PySem.W.Fast.tw7111560558583012815 : Unit := ()
def PySem.W.Fast.tw4751848597997663058 : Unit := ()
def PySem.W.Fast.tw507852180776508639 : Unit := ()
def PySem.W.Fast.tw10438299257326059778 : Unit := ()
def PySem.W.Fast.tw6085769415541586026 : Unit := ()
def PySem.W.Fast.tw1410845572575450181 : Unit := ()
def PySem.W.Fast.tw12257263769512249315 : Unit := ()
def PySem.W.Fast.tw6630336408239595940 : Unit := ()
def PySem.W.Fast.tw15118314276396539117 : Unit := ()
def PySem.W.Fast.tw13910982485251209546 : Unit := ()
def PySem.W.Fast.tw1043601662304973101 : Unit := ()
def PySem.W.Fast.tw11885337044681347712 : Unit := ()
def PySem.W.Fast.tw10449296001373656321 : Unit := ()
def PySem.W.Fast.tw15262214285431993015 : Unit := ()
def PySem.W.Fast.tw229915819631643194 : Unit := ()
def PySem.W.Fast.tw14832249340336367936 : Unit := ()
def PySem.W.Fast.tw13880715845325369581 : Unit := ()
def PySem.W.Fast.tw14411837385340100582 : Unit := ()
def PySem.W.Fast.tw9873874671907583658 : Unit := ()
def PySem.W.Fast.tw4086363726205133295 : Unit := ()
def PySem.W.Fast.tw8324720059687988582 : Unit := ()
def PySem.W.Fast.tw6148594477495783982 : Unit := ()
def PySem.W.Fast.tw11752426673218823892 : Unit := ()
def PySem.W.Fast.tw6273172440714868666 : Unit := ()
def PySem.W.Fast.tw17330311536267374677 : Unit := ()
def PySem.W.Fast.tw9413167700616245061 : Unit := ()
def PySem.W.Fast.tw14615073095076780870 : Unit := ()
def PySem.W.Fast.tw9415157710891198989 : Unit := ()
def PySem.W.Fast.tw16140286806383129978 : Unit := ()
def PySem.W.Fast.tw8215150849042050174 : Unit := ()
def PySem.W.Fast.tw13058559202471719080 : Unit := ()
def PySem.W.Fast.tw13951857243440974962 : Unit := ()
def PySem.W.Fast.tw5863724919350916873 : Unit := ()
def PySem.W.Fast.tw17444010266883156889 : Unit := ()
def PySem.W.Fast.tw10634580909950287647 : Unit := ()
def PySem.W.Fast.tw16009916917514015498 : Unit := ()
def PySem.W.Fast.tw7792669780752057732 : Unit := ()
def PySem.W.Fast.tw2043623902123591976 : Unit := ()
def PySem.W.Fast.tw2275575483964367031 : Unit := ()
def PySem.W.Fast.tw3528095371495406150 : Unit := ()
def PySem.W.Fast.tw18080887203581625268 : Unit := ()
def PySem.W.Fast.tw12079855160537203001 : Unit := ()
def PySem.W.Fast.tw5170460286932454552 : Unit := ()
def PySem.W.Fast.tw2684515012650411032 : Unit := ()
def PySem.W.Fast.tw6682743757939456685 : Unit := ()
def PySem.W.Fast.tw4695469155722408609 : Unit := ()
def PySem.W.Fast.tw544024224850524898 : Unit := ()
def PySem.W.Fast.tw4070085282449365194 : Unit := ()
def PySem.W.Fast.tw14124977497012925699 : Unit := ()
def PySem.W.Fast.tw11807406346936085521 : Unit := ()
def PySem.W.Fast.tw10116829529225357819 : Unit := ()
def PySem.W.Fast.tw18189584588010715680 : Unit := ()
def PySem.W.Fast.tw13704544103494794907 : Unit := ()
def PySem.W.Fast.tw14001247230269390771 : Unit := ()
def PySem.W.Fast.tw12428116396898843335 : Unit := ()
def PySem.W.Fast.tw8535971101304656054 : Unit := ()
def PySem.W.Fast.tw1892042795490359217 : Unit := ()
def PySem.W.Fast.tw5868530974987298366 : Unit := ()
def PySem.W.Fast.tw11689571333043254220 : Unit := ()
def PySem.W.Fast.tw9419729269623698746 : Unit := ()
def PySem.W.Fast.tw8264657247545211073 : Unit := ()
def PySem.W.Fast.tw16847356055486053210 : Unit := ()
def PySem.W.Fast.tw5727146036347214722 : Unit := ()
def PySem.W.Fast.tw18216714969784229048 : Unit := ()
def PySem.W.Fast.tw9961523598744190652 : Unit := ()
def PySem.W.Fast.tw12917108344680950284 : Unit := ()
def PySem.W.Fast.tw16253329513008689639 : Unit := ()
def PySem.W.Fast.tw9023415916666715992 : Unit := ()
def PySem.W.Fast.tw13864479163907964222 : Unit := ()
def PySem.W.Fast.tw11149769947533312824 : Unit := ()
def PySem.W.Fast.tw7940532275191891328 : Unit := ()
def PySem.W.Fast.tw14124327702635868203 : Unit := ()
def PySem.W.Fast.tw6904042868320053861 : Unit := ()
def PySem.W.Fast.tw17809396691638616227 : Unit := ()
def PySem.W.Fast.tw2743018431186529800 : Unit := ()
def PySem.W.Fast.tw4298161980399558617 : Unit := ()
def PySem.W.Fast.tw16748815379967743920 : Unit := ()
def PySem.W.Fast.tw8585629855265468073 : Unit := ()
def PySem.W.Fast.tw3951588564277477900 : Unit := ()
def PySem.W.Fast.tw9900519664884561676 : Unit := ()
def PySem.W.Fast.tw16996466369201312765 : Unit := ()
def PySem.W.Fast.tw15369362185898167087 : Unit := ()
def PySem.W.Fast.tw8758104930039445516 : Unit := ()
def PySem.W.Fast.tw11361936957250251661 : Unit := ()
def PySem.W.Fast.tw15727693868926493731 : Unit := ()
def PySem.W.Fast.tw10194922212751488515 : Unit := ()
def PySem.W.Fast.tw9484157083819412839 : Unit := ()
def PySem.W.Fast.tw656027924494536058 : Unit := ()
def PySem.W.Fast.tw2709494981609601709 : Unit := ()
def PySem.W.Fast.tw14772901819337459859 : Unit := ()
def PySem.W.Fast.tw8604257043265508281 : Unit := ()
def PySem.W.Fast.tw14933714865563563220 : Unit := ()
def PySem.W.Fast.tw7764197319861339860 : Unit := ()
def PySem.W.Fast.tw513005606438955169 : Unit := ()
def PySem.W.Fast.tw3762208554546127370 : Unit := ()
def PySem.W.Fast.tw16986827340250762125 : Unit := ()
def PySem.W.Fast.tw690706970909439662 : Unit := ()
def PySem.W.Fast.tw17777022446915313572 : Unit := ()
def PySem.W.Fast.tw11177609932149027781 : Unit := ()
def PySem.W.Fast.tw10952994608498245626 : Unit := ()
def PySem.W.Fast.tw12498826674489336399 : Unit := ()
def PySem.W.Fast.tw8939254977868589530 : Unit := ()
def PySem.W.Fast.tw6598470774571000660 : Unit := ()
def PySem.W.Fast.tw17601679617778775727 : Unit := ()
def PySem.W.Fast.tw6743514565716447211 : Unit := ()
def PySem.W.Fast.tw7364513994641629708 : Unit := ()
def PySem.W.Fast.tw7283419110874587053 : Unit := ()
def PySem.W.Fast.tw16878814770282555312 : Unit := ()
def PySem.W.Fast.tw3455282592001398030 : Unit := ()
def PySem.W.Fast.tw7884401884218516315 : Unit := ()
def PySem.W.Fast.tw5378617225409959615 : Unit := ()
def PySem.W.Fast.tw614143378159028287 : Unit := ()
def PySem.W.Fast.tw16977315618606346005 : Unit := ()
def PySem.W.Fast.tw18366512518603614840 : Unit := ()
def PySem.W.Fast.tw15098822266063582555 : Unit := ()
def PySem.W.Fast.tw7535632274247941550 : Unit := ()
def PySem.W.Fast.tw11565101880229420232 : Unit := ()
def PySem.W.Fast.tw9697083327175095579 : Unit := ()
def PySem.W.Fast.tw14562507204147832040 : Unit := ()
def PySem.W.Fast.tw13753215715316257843 : Unit := ()
def PySem.W.Fast.tw13866638131056147642 : Unit := ()
def PySem.W.Fast.tw10739730180952657627 : Unit := ()
def PySem.W.Fast.tw7923350954198648485 : Unit := ()
def PySem.W.Fast.tw2891392209409126275 : Unit := ()
def PySem.W.Fast.tw14941415076483763962 : Unit := ()
def PySem.W.Fast.tw13294645775010018508 : Unit := ()
def PySem.W.Fast.tw16077406799307167930 : Unit := ()
def PySem.W.Fast.tw3783040918044280 : Unit := ()
def PySem.W.Fast.tw7385771191603038835 : Unit := ()
def PySem.W.Fast.tw18043399312317259601 : Unit := ()
def PySem.W.Fast.tw6006971781943216237 : Unit := ()
def PySem.W.Fast.tw143515036331837525 : Unit := ()
def PySem.W.Fast.tw13482304243288587505 : Unit := ()
def PySem.W.Fast.tw2859555724896202010 : Unit := ()
def PySem.W.Fast.tw8601108426291674740 : Unit := ()
def PySem.W.Fast.tw482588781406350943 : Unit := ()
def PySem.W.Fast.tw2663134497348703037 : Unit := ()
def PySem.W.Fast.tw7326574103108340045 : Unit := ()
def PySem.W.Fast.tw7985139672901795112 : Unit := ()
def PySem.W.Fast.tw1272969984186322552 : Unit := ()
def PySem.W.Fast.tw7772344297081683556 : Unit := ()
def PySem.W.Fast.tw17165850479096416750 : Unit := ()
def PySem.W.Fast.tw1369928815381093443 : Unit := ()
def PySem.W.Fast.tw671726764031430844 : Unit := ()
def PySem.W.Fast.tw2167599653326839559 : Unit := ()
def PySem.W.Fast.tw3969250894227179933 : Unit := ()
def PySem.W.Fast.tw16052899454938688212 : Unit := ()
def PySem.W.Fast.tw7011922199736413106 : Unit := ()
def PySem.W.Fast.tw15236108699327669378 : Unit := ()
def PySem.W.Fast.tw17584850149711255520 : Unit := ()
def PySem.W.Fast.tw3556651866547893530 : Unit := ()
def PySem.W.Fast.tw9658492292197672664 : Unit := ()
def PySem.W.Fast.tw8196195666580471532 : Unit := ()
def PySem.W.Fast.tw1798489981756054255 : Unit := ()
def PySem.W.Fast.tw6631185923538961358 : Unit := ()
def PySem.W.Fast.tw10161101658817549611 : Unit := ()
def PySem.W.Fast.tw17970855819746949387 : Unit := ()
def PySem.W.Fast.tw17955232290739182439 : Unit := ()
def PySem.W.Fast.tw2712559557389219645 : Unit := ()
def PySem.W.Fast.tw8422217079412130384 : Unit := ()
def PySem.W.Fast.tw9126947276455600245 : Unit := ()
def PySem.W.Fast.tw6285604059285450280 : Unit := ()
def PySem.W.Fast.tw13990669968718451782 : Unit := ()
def PySem.W.Fast.tw5829709630457405366 : Unit := ()
def PySem.W.Fast.tw10071336280972448324 : Unit := ()
def PySem.W.Fast.tw18166995630043335119 : Unit := ()
def PySem.W.Fast.tw15602747320980485216 : Unit := ()
def PySem.W.Fast.tw1311386808025025741 : Unit := ()
def PySem.W.Fast.tw10310332616933029506 : Unit := ()
def PySem.W.Fast.tw18171102841955170268 : Unit := ()
def PySem.W.Fast.tw16620769898025667302 : Unit := ()
def PySem.W.Fast.tw17615779588048841524 : Unit := ()
def PySem.W.Fast.tw10256641103870310813 : Unit := ()
def PySem.W.Fast.tw16827302158749371084 : Unit := ()
def PySem.W.Fast.tw11388016833802751530 : Unit := ()
def PySem.W.Fast.tw15746284387460132304 : Unit := ()
def PySem.W.Fast.tw13403801707511953320 : Unit := ()
def PySem.W.Fast.tw5084505064956122355 : Unit := ()
def PySem.W.Fast.tw1887395961134126017 : Unit := ()
def PySem.W.Fast.tw15964609209146670129 : Unit := ()
def PySem.W.Fast.tw15345179373934675063 : Unit := ()
def PySem.W.Fast.tw13899944232051003570 : Unit := ()
def PySem.W.Fast.tw15069076790561863201 : Unit := ()
def PySem.W.Fast.tw10688059505977959039 : Unit := ()
def PySem.W.Fast.tw10890490648688809047 : Unit := ()
def PySem.W.Fast.tw10738775926107536565 : Unit := ()
def PySem.W.Fast.tw4911765688553384493 : Unit := ()
def PySem.W.Fast.tw16215864124867796395 : Unit := ()
def PySem.W.Fast.tw7994811133207094303 : Unit := ()
def PySem.W.Fast.tw10043834060374601056 : Unit := ()
def PySem.W.Fast.tw16473128226292525081 : Unit := ()
def PySem.W.Fast.tw1830895254914965163 : Unit := ()
def PySem.W.Fast.tw12217414392946317694 : Unit := ()
def PySem.W.Fast.tw8172314493617019356 : Unit := ()
def PySem.W.Fast.tw7645258650218140736 : Unit := ()
def PySem.W.Fast.tw11411572957415168705 : Unit := ()
def PySem.W.Fast.tw14406436989687428313 : Unit := ()
def PySem.W.Fast.tw10168504299432429697 : Unit := ()
def PySem.W.Fast.tw11100846869508143556 : Unit := ()
def PySem.W.Fast.tw2362677700205884696 : Unit := ()
def PySem.W.Fast.tw15358937108892317646 : Unit := ()
def PySem.W.Fast.tw10934534130727672278 : Unit := ()
def PySem.W.Fast.tw15268696761522750145 : Unit := ()
def PySem.W.Fast.tw7586320794767148349 : Unit := ()
def PySem.W.Fast.tw8661022975843002404 : Unit := ()
def PySem.W.Fast.tw17298728687398095427 : Unit := ()
def PySem.W.Fast.tw4174280700831360196 : Unit := ()
def PySem.W.Fast.tw921443902135610818 : Unit := ()
def PySem.W.Fast.tw4069192069640503707 : Unit := ()
def PySem.W.Fast.tw16627595196811711683 : Unit := ()
def PySem.W.Fast.tw11016731713179036456 : Unit := ()
def PySem.W.Fast.tw11621487736690556531 : Unit := ()
def PySem.W.Fast.tw4946957323633413106 : Unit := ()
def PySem.W.Fast.tw11392790482888773011 : Unit := ()
def PySem.W.Fast.tw15138787931238286840 : Unit := ()
def PySem.W.Fast.tw9222210195544307864 : Unit := ()
def PySem.W.Fast.tw16926590100865950830 : Unit := ()
def PySem.W.Fast.tw10975319254247357669 : Unit := ()
def PySem.W.Fast.tw12266641221895405913 : Unit := ()
def PySem.W.Fast.tw2123537220543491665 : Unit := ()
def PySem.W.Fast.tw11739931472189197449 : Unit := ()
def PySem.W.Fast.tw8111453790866861684 : Unit := ()
def PySem.W.Fast.tw17162598796963906856 : Unit := ()
def PySem.W.Fast.tw10421219047506012070 : Unit := ()
def PySem.W.Fast.tw2105337121195910961 : Unit := ()
def PySem.W.Fast.tw7975098435261551387 : Unit := ()
def PySem.W.Fast.tw16152881816017590281 : Unit := ()
def PySem.W.Fast.tw17092551848753475930 : Unit := ()
def PySem.W.Fast.tw222458587159506817 : Unit := ()
def PySem.W.Fast.tw12255901566760406382 : Unit := ()
def PySem.W.Fast.tw9571372838863433817 : Unit := ()
def PySem.W.Fast.tw16322500210710719807 : Unit := ()
def PySem.W.Fast.tw17426253050614115887 : Unit := ()
def PySem.W.Fast.tw16616876689039957883 : Unit := ()
def PySem.W.Fast.tw17889350590356337248 : Unit := ()
def PySem.W.Fast.tw12917459608649555178 : Unit := ()
def PySem.W.Fast.tw8660451916726372746 : Unit := ()
def PySem.W.Fast.tw1289918030350041557 : Unit := ()
def PySem.W.Fast.tw7865535686187807908 : Unit := ()
def PySem.W.Fast.tw16079007731994276664 : Unit := ()
def PySem.W.Fast.tw15278605949960004901 : Unit := ()
def PySem.W.Fast.tw9219805231821757715 : Unit := ()
def PySem.W.Fast.tw14801192987055932615 : Unit := ()
def PySem.W.Fast.tw2599633771588250269 : Unit := ()
def PySem.W.Fast.tw3637843315264040724 : Unit := ()
def PySem.W.Fast.tw1589190380818394744 : Unit := ()
def PySem.W.Fast.tw10189033864390663457 : Unit := ()
def PySem.W.Fast.tw9813375126475462952 : Unit := ()
def PySem.W.Fast.tw14847229529956267866 : Unit := ()
def PySem.W.Fast.tw520324120003024646 : Unit := ()
def PySem.W.Fast.tw3043594352750699216 : Unit := ()
def PySem.W.Fast.tw13048581647380049413 : Unit := ()
def PySem.W.Fast.tw305080721844537094 : Unit := ()
def PySem.W.Fast.tw4741236549577381293 : Unit := ()
def PySem.W.Fast.tw11055628120958066212 : Unit := ()
def PySem.W.Fast.tw11517531377946669866 : Unit := ()
def PySem.W.Fast.tw9049749497260347918 : Unit := ()
def PySem.W.Fast.tw4907316618643465367 : Unit := ()
def PySem.W.Fast.tw2107134041426853528 : Unit := ()
def PySem.W.Fast.tw11686963771818812140 : Unit := ()
def PySem.W.Fast.tw1743526695073756365 : Unit := ()
def PySem.W.Fast.tw16515260837856088298 : Unit := ()
def PySem.W.Fast.tw15629118534068455703 : Unit := ()
def PySem.W.Fast.tw13684144401546483465 : Unit := ()
def PySem.W.Fast.tw13693870472371493406 : Unit := ()
def PySem.W.Fast.tw13806005938606116666 : Unit := ()
def PySem.W.Fast.tw17891666178708092702 : Unit := ()
def PySem.W.Fast.tw16616180456404198723 : Unit := ()
def PySem.W.Fast.tw16580270385799344236 : Unit := ()
def PySem.W.Fast.tw7368905569631010030 : Unit := ()
def PySem.W.Fast.tw1839262402882918721 : Unit := ()
def PySem.W.Fast.tw18262248704349862890 : Unit := ()
def PySem.W.Fast.tw2727684065509078607 : Unit := ()
def PySem.W.Fast.tw8931989956735944324 : Unit := ()
def PySem.W.Fast.tw14233553837690250730 : Unit := ()
def PySem.W.Fast.tw14090385409373060308 : Unit := ()
def PySem.W.Fast.tw16333121991181452203 : Unit := ()
def PySem.W.Fast.tw4329217936193684991 : Unit := ()
def PySem.W.Fast.tw5635194851160491144 : Unit := ()
def PySem.W.Fast.tw16697150005977015958 : Unit := ()
def PySem.W.Fast.tw4749207477608351045 : Unit := ()
def PySem.W.Fast.tw12732305860837895686 : Unit := ()
def PySem.W.Fast.tw14957713862813709866 : Unit := ()
def PySem.W.Fast.tw17667174490001132396 : Unit := ()
def PySem.W.Fast.tw6648691617408665974 : Unit := ()
def PySem.W.Fast.tw9319699601814803744 : Unit := ()
def PySem.W.Fast.tw8113973067321321190 : Unit := ()
def PySem.W.Fast.tw4988513071445161680 : Unit := ()
def PySem.W.Fast.tw3018162688658662317 : Unit := ()
def PySem.W.Fast.tw4321701954304440154 : Unit := ()
def PySem.W.Fast.tw2753177251917509520 : Unit := ()
def PySem.W.Fast.tw14148199650025652137 : Unit := ()
def PySem.W.Fast.tw15991177162763749461 : Unit := ()
def PySem.W.Fast.tw13378333089579043948 : Unit := ()
def PySem.W.Fast.tw3044744007141094489 : Unit := ()
def PySem.W.Fast.tw3741209900485371430 : Unit := ()
def PySem.W.Fast.tw3256133206382584525 : Unit := ()
def PySem.W.Fast.tw964404629650018346 : Unit := ()
def PySem.W.Fast.tw8624135704834114526 : Unit := ()
def PySem.W.Fast.tw12944220621207166836 : Unit := ()
def PySem.W.Fast.tw17383400255125088082 : Unit := ()
def PySem.W.Fast.tw13453001393585210710 : Unit := ()
def PySem.W.Fast.tw17830953411015406513 : Unit := ()
def PySem.W.Fast.tw3735397746155457578 : Unit := ()
def PySem.W.Fast.tw12405056044216495792 : Unit := ()
def PySem.W.Fast.tw6116943059598056762 : Unit := ()
def PySem.W.Fast.tw11183994510384506652 : Unit := ()
def PySem.W.Fast.tw16036673980134197800 : Unit := ()
def PySem.W.Fast.tw16270939220064284248 : Unit := ()
def PySem.W.Fast.tw16053474179407470792 : Unit := ()
def PySem.W.Fast.tw929352743209543007 : Unit := ()
def PySem.W.Fast.tw6590480083940195152 : Unit := ()
def PySem.W.Fast.tw1429095196398108461 : Unit := ()
def PySem.W.Fast.tw9807367434468761240 : Unit := ()
def PySem.W.Fast.tw17299010855461826998 : Unit := ()
def PySem.W.Fast.tw11944233441540605264 : Unit := ()
def PySem.W.Fast.tw376413768936150758 : Unit := ()
def PySem.W.Fast.tw6254578128548889062 : Unit := ()
def PySem.W.Fast.tw3043141609824793942 : Unit := ()
def PySem.W.Fast.tw87338304871391789 : Unit := ()
def PySem.W.Fast.tw10230000700617361720 : Unit := ()
def PySem.W.Fast.tw5183835740710425471 : Unit := ()
def PySem.W.Fast.tw4968388851335046494 : Unit := ()
def PySem.W.Fast.tw8016877248948876644 : Unit := ()
def PySem.W.Fast.tw7265738662454612163 : Unit := ()
def PySem.W.Fast.tw6297687938969335489 : Unit := ()
def PySem.W.Fast.tw17853691770377721708 : Unit := ()
def PySem.W.Fast.tw12826297052077782493 : Unit := ()
def PySem.W.Fast.tw1937469806037057344 : Unit := ()
def PySem.W.Fast.tw932976696209022190 : Unit := ()
def PySem.W.Fast.tw5021049485731185092 : Unit := ()
def PySem.W.Fast.tw14422072923620769420 : Unit := ()
def PySem.W.Fast.tw10900322794384949508 : Unit := ()
def PySem.W.Fast.tw16391737996100521912 : Unit := ()
def PySem.W.Fast.tw46659475569477864 : Unit := ()
def PySem.W.Fast.tw17710913405590922262 : Unit := ()
def PySem.W.Fast.tw662836758025161823 : Unit := ()
def PySem.W.Fast.tw963363872215188785 : Unit := ()
def PySem.W.Fast.tw15705121017984880494 : Unit := ()
def PySem.W.Fast.tw7251443471336825237 : Unit := ()
def PySem.W.Fast.tw2254004862400360371 : Unit := ()
def PySem.W.Fast.tw7229778699586512183 : Unit := ()
def PySem.W.Fast.tw18332061119468829467 : Unit := ()
def PySem.W.Fast.tw9403578141333635667 : Unit := ()
def PySem.W.Fast.tw3282685234382742693 : Unit := ()
def PySem.W.Fast.tw11615437769533623045 : Unit := ()
def PySem.W.Fast.tw13517266583193282974 : Unit := ()
def PySem.W.Fast.tw15239431277977537466 : Unit := ()
def PySem.W.Fast.tw7368937477807007525 : Unit := ()
def PySem.W.Fast.tw1006312432695022594 : Unit := ()
def PySem.W.Fast.tw1465344996612593478 : Unit := ()
def PySem.W.Fast.tw9985005617883165880 : Unit := ()
def PySem.W.Fast.tw5007234641395864982 : Unit := ()
def PySem.W.Fast.tw13653402733141786373 : Unit := ()
def PySem.W.Fast.tw5944185585537959212 : Unit := ()
def PySem.W.Fast.tw9405881102905124555 : Unit := ()
def PySem.W.Fast.tw6584427054494688561 : Unit := ()
def PySem.W.Fast.tw293431403705018295 : Unit := ()
def PySem.W.Fast.tw363980548297943482 : Unit := ()
def PySem.W.Fast.tw15991251853068936004 : Unit := ()
def PySem.W.Fast.tw4393393586046124796 : Unit := ()
def PySem.W.Fast.tw1500944073784527320 : Unit := ()
def PySem.W.Fast.tw1397644612435810973 : Unit := ()
def PySem.W.Fast.tw12708977148499765342 : Unit := ()
def PySem.W.Fast.tw5159616916181145683 : Unit := ()
def PySem.W.Fast.tw17430784988232538246 : Unit := ()
def PySem.W.Fast.tw10869685419237273542 : Unit := ()
def PySem.W.Fast.tw11229097496110460277 : Unit := ()
def PySem.W.Fast.tw11145481827253480351 : Unit := ()
def PySem.W.Fast.tw15962069682068953635 : Unit := ()
def PySem.W.Fast.tw6943184647599026698 : Unit := ()
def PySem.W.Fast.tw15074475393331785957 : Unit := ()
def PySem.W.Fast.tw9280695235260886411 : Unit := ()
def PySem.W.Fast.tw4738987676439515428 : Unit := ()
def PySem.W.Fast.tw18380188339797140215 : Unit := ()
def PySem.W.Fast.tw5048515185927600058 : Unit := ()
def PySem.W.Fast.tw14628224385814084924 : Unit := ()
def PySem.W.Fast.tw13322861602993757321 : Unit := ()
def PySem.W.Fast.tw2394077020325611888 : Unit := ()
def PySem.W.Fast.tw9833375565585082287 : Unit := ()
def PySem.W.Fast.tw4304774420089907938 : Unit := ()
def PySem.W.Fast.tw319626174983564706 : Unit := ()
def PySem.W.Fast.tw10705916518616691294 : Unit := ()
def PySem.W.Fast.tw927843538379815723 : Unit := ()
def PySem.W.Fast.tw4793955735685571005 : Unit := ()
def PySem.W.Fast.tw12946334647937424701 : Unit := ()
def PySem.W.Fast.tw12994478621313973525 : Unit := ()
def PySem.W.Fast.tw16825682249661477424 : Unit := ()
def PySem.W.Fast.tw11648078171609180601 : Unit := ()
def PySem.W.Fast.tw14483600696691279221 : Unit := ()
def PySem.W.Fast.tw2011420231899099907 : Unit := ()
def PySem.W.Fast.tw14664013538915446081 : Unit := ()
def PySem.W.Fast.tw9416184833524916236 : Unit := ()
def PySem.W.Fast.tw12836390235026764026 : Unit := ()
def PySem.W.Fast.tw4474980687375805942 : Unit := ()
def PySem.W.Fast.tw5472453233943662872 : Unit := ()
def PySem.W.Fast.tw108008266382151090 : Unit := ()
def PySem.W.Fast.tw2392241459625294129 : Unit := ()
def PySem.W.Fast.tw8040441758165851667 : Unit := ()
def PySem.W.Fast.tw17919613553046754296 : Unit := ()
def PySem.W.Fast.tw13648919056881891529 : Unit := ()
def PySem.W.Fast.tw16237165275135641631 : Unit := ()
def PySem.W.Fast.tw7158702345165248257 : Unit := ()
def PySem.W.Fast.tw829143046149414128 : Unit := ()
def PySem.W.Fast.tw6232540265587663372 : Unit := ()
def PySem.W.Fast.tw12130877400374362034 : Unit := ()
def PySem.W.Fast.tw41765653649800070 : Unit := ()
def PySem.W.Fast.tw2244945325512741758 : Unit := ()
def PySem.W.Fast.tw974281344954412800 : Unit := ()
def PySem.W.Fast.tw4218573704830435382 : Unit := ()
def PySem.W.Fast.tw17892185428376680797 : Unit := ()
def PySem.W.Fast.tw12335302410904907432 : Unit := ()
def PySem.W.Fast.tw4932692051160928731 : Unit := ()
def PySem.W.Fast.tw5386527623964326259 : Unit := ()
def PySem.W.Fast.tw14861688156016419067 : Unit := ()
def PySem.W.Fast.tw1043234961846133135 : Unit := ()
def PySem.W.Fast.tw5745499909406077800 : Unit := ()
def PySem.W.Fast.tw9072905308926727421 : Unit := ()
def PySem.W.Fast.tw5721774075647682109 : Unit := ()
def PySem.W.Fast.tw4465941644749598488 : Unit := ()
def PySem.W.Fast.tw17340771677684676946 : Unit := ()
def PySem.W.Fast.tw237828906803859594 : Unit := ()
def PySem.W.Fast.tw6417911253303636871 : Unit := ()
def PySem.W.Fast.tw17178897200674954731 : Unit := ()
def PySem.W.Fast.tw14882294452342321373 : Unit := ()
def PySem.W.Fast.tw8410502130519771029 : Unit := ()
def PySem.W.Fast.tw2961557192639062826 : Unit := ()
def PySem.W.Fast.tw2814323292313820663 : Unit := ()
def PySem.W.Fast.tw17206450731099932050 : Unit := ()
def PySem.W.Fast.tw16639786434070947826 : Unit := ()
def PySem.W.Fast.tw17124207685093255294 : Unit := ()
def PySem.W.Fast.tw914831012822313769 : Unit := ()
def PySem.W.Fast.tw4946081294891487769 : Unit := ()
def PySem.W.Fast.tw10631901306434007589 : Unit := ()
def PySem.W.Fast.tw9069822407734730701 : Unit := ()
def PySem.W.Fast.tw1465708796042303730 : Unit := ()
def PySem.W.Fast.tw9384609303797726738 : Unit := ()
def PySem.W.Fast.tw9267106134466745901 : Unit := ()
def PySem.W.Fast.tw1002730490584560884 : Unit := ()
def PySem.W.Fast.tw7380235708987649732 : Unit := ()
def PySem.W.Fast.tw282848618085036180 : Unit := ()
def PySem.W.Fast.tw7382687861121063764 : Unit := ()
def PySem.W.Fast.tw3558892032306533774 : Unit := ()
def PySem.W.Fast.tw2192194183350307021 : Unit := ()
def PySem.W.Fast.tw12418259020175671862 : Unit := ()
def PySem.W.Fast.tw8914008921448317861 : Unit := ()
def PySem.W.Fast.tw2184320584367743303 : Unit := ()
def PySem.W.Fast.tw2226557726390778908 : Unit := ()
def PySem.W.Fast.tw14037694604911994256 : Unit := ()
def PySem.W.Fast.tw10361766137589113587 : Unit := ()
def PySem.W.Fast.tw5910731478065362957 : Unit := ()
def PySem.W.Fast.tw2715866790098733509 : Unit := ()
def PySem.W.Fast.tw15103196933885404208 : Unit := ()
def PySem.W.Fast.tw9589989836903669685 : Unit := ()
def PySem.W.Fast.tw503595375829340906 : Unit := ()
def PySem.W.Fast.tw16542472340864777317 : Unit := ()
def PySem.W.Fast.tw10148686130846746652 : Unit := ()
def PySem.W.Fast.tw5928626875851777850 : Unit := ()
def PySem.W.Fast.tw10576078643999795911 : Unit := ()
def PySem.W.Fast.tw4311273439804785495 : Unit := ()
def PySem.W.Fast.tw4547368325422429479 : Unit := ()
def PySem.W.Fast.tw5152018706057943621 : Unit := ()
def PySem.W.Fast.tw17868999167509565493 : Unit := ()
def PySem.W.Fast.tw6973801746104949609 : Unit := ()
def PySem.W.Fast.tw3310211710763114205 : Unit := ()
def PySem.W.Fast.tw14657490945362595769 : Unit := ()
def PySem.W.Fast.tw39765813743702908 : Unit := ()
def PySem.W.Fast.tw11412386906116446507 : Unit := ()
def PySem.W.Fast.tw5352329410314296844 : Unit := ()
def PySem.W.Fast.tw3019804113327870093 : Unit := ()
def PySem.W.Fast.tw13617065567282735415 : Unit := ()
def PySem.W.Fast.tw12047368430555367155 : Unit := ()
def PySem.W.Fast.tw8822675430000383945 : Unit := ()
def PySem.W.Fast.tw11054543857941024968 : Unit := ()
def PySem.W.Fast.tw9232415169946334871 : Unit := ()
def PySem.W.Fast.tw577636692937200006 : Unit := ()
def PySem.W.Fast.tw3095388622824119205 : Unit := ()
def PySem.W.Fast.tw620968655799202722 : Unit := ()
def PySem.W.Fast.tw4065842174607108973 : Unit := ()
def PySem.W.Fast.tw985299984812179961 : Unit := ()
def PySem.W.Fast.tw13041258484249540081 : Unit := ()
def PySem.W.Fast.tw11501277735566172072 : Unit := ()
def PySem.W.Fast.tw14365043809502151569 : Unit := ()
def PySem.W.Fast.tw15218267335465184329 : Unit := ()
def PySem.W.Fast.tw14472373924660901693 : Unit := ()
def PySem.W.Fast.tw14760417970157012389 : Unit := ()
def PySem.W.Fast.tw9380347202781467721 : Unit := ()
def PySem.W.Fast.tw8072997377183421262 : Unit := ()
def PySem.W.Fast.tw7718896327680057727 : Unit := ()
def PySem.W.Fast.tw10808764828536570775 : Unit := ()
def PySem.W.Fast.tw8063849301607948182 : Unit := ()
def PySem.W.Fast.tw11493844974663300754 : Unit := ()
def PySem.W.Fast.tw5457194228992512469 : Unit := ()
def PySem.W.Fast.tw1727791878702259216 : Unit := ()
def PySem.W.Fast.tw9876074290042493308 : Unit := ()
def PySem.W.Fast.tw14396618837132750505 : Unit := ()
def PySem.W.Fast.tw8557817861944229406 : Unit := ()
def PySem.W.Fast.tw5840856844609478258 : Unit := ()
def PySem.W.Fast.tw173143747915732642 : Unit := ()
def PySem.W.Fast.tw12102388370634488220 : Unit := ()
def PySem.W.Fast.tw10102562476119604515 : Unit := ()
def PySem.W.Fast.tw3700853599767707752 : Unit := ()
def PySem.W.Fast.tw3054087635244955916 : Unit := ()
def PySem.W.Fast.tw15626438215767364297 : Unit := ()
def PySem.W.Fast.tw5211092363519780072 : Unit := ()
def PySem.W.Fast.tw8454837203455393419 : Unit := ()
def PySem.W.Fast.tw3115782701454796461 : Unit := ()
def PySem.W.Fast.tw18084742735986362504 : Unit := ()
def PySem.W.Fast.tw16535138149300873911 : Unit := ()
def PySem.W.Fast.tw8513843907617977689 : Unit := ()
open PySem PySem.W PyProof.Rows
set_option Elab.async false
set_option maxRecDepth 100000 in
set_option maxHeartbeats 8000000 in
open_top PySem.Challenge.hd for PySem.Challenge.rw_qd0147_01

set_option maxRecDepth 100000
set_option maxHeartbeats 8000000
namespace Mine
section
open PySem PySem.W PyProof.Rows
theorem gone {α : Type} {x : Option α} {o : α} {P : Prop} (e : x = some o) (n : x = none) : P := by rw [n] at e; cases e
theorem gone2 {α : Type} {f : Addr → Option α} {a b : Addr} {o : α} {P : Prop} (q : a = b) (e : f a = some o) (n : f b = none) : P := by rw [q, n] at e; cases e
theorem none_of {α : Type} {x : Option α} (h : ∀ o, x = some o → False) : x = none := by
  cases x with
  | none => rfl
  | some o => exact (h o rfl).elim

noncomputable abbrev KF : Params → Frag := PySem.Challenge.hd.heap_39
noncomputable abbrev VW : Program := PySem.Challenge.hd.view_39
noncomputable abbrev LS : List Str := looseW VW [Str.ofString "SHORT_ESCAPES", Str.ofString "Limits"]
noncomputable abbrev PW : Program := PySem.Challenge.rw_qd0147_01.row.prog

/-! ## abstract values -/
inductive AV where
  | none
  | bool (b : Bool)
  | int (i : Int)
  | str (x : Str)
  | ref (a : Addr)
  | tup (xs : List AV)
  | ty (T : String)

noncomputable abbrev Loc := List (Str × Option AV)

mutual
noncomputable def Rel (h : Heap) : AV → Value → Prop
  | .none, v => v = .none
  | .bool b, v => v = .bool b
  | .int i, v => ∃ t, v = .int i t
  | .str x, v => ∃ t, v = .str x t
  | .ref a, v => v = .ref a
  | .ty T, v => v = .type T
  | .tup xs, v => ∃ a vs, v = .ref a ∧ IsTup h a (List.toArray vs) ∧ RelL h xs vs
noncomputable def RelL (h : Heap) : List AV → List Value → Prop
  | [], vs => vs = []
  | x :: xs, vs => ∃ v r, vs = v :: r ∧ Rel h x v ∧ RelL h xs r
end

/-- tuples stay -/
noncomputable def TK (h h' : Heap) : Prop := ∀ a vs, IsTup h a vs → IsTup h' a vs
theorem TK.refl (h : Heap) : TK h h := fun _ _ e => e
theorem TK.trans {h h' h'' : Heap} (x : TK h h') (y : TK h' h'') : TK h h'' := fun a vs e => y a vs (x a vs e)
theorem TK.keeps {h h' : Heap} (k : ∀ b o, h.get? b = some o → h'.get? b = some o) : TK h h' := fun a _ ⟨o, e, r⟩ => ⟨o, k a o e, r⟩
theorem TK.sameBut' {h h' : Heap} {b : Addr} {o : Obj} (hs : Heap.SameBut b h h') (ho : h.get? b = some o) (hn : o.cls ≠ .type "tuple") : TK h h' := by
  rintro a vs ⟨o', e, hc, r⟩
  refine ⟨o', ?_, hc, r⟩
  rw [hs.2 a]
  · exact e
  · rintro rfl; rw [ho] at e; cases e; exact hn hc
theorem TK.but {h h' : Heap} {b : Addr} (hs : Heap.SameBut b h h') (hn : ∀ vs, ¬ IsTup h b vs) : TK h h' := by
  rintro a vs ⟨o', e, r⟩
  refine ⟨o', ?_, r⟩
  rw [hs.2 a]
  · exact e
  · rintro rfl; exact hn vs ⟨o', e, r⟩

mutual
theorem Rel.mono {h h' : Heap} (k : TK h h') : ∀ {x : AV} {v : Value}, Rel h x v → Rel h' x v
  | .none, _, e => e
  | .bool _, _, e => e
  | .int _, _, e => e
  | .str _, _, e => e
  | .ref _, _, e => e
  | .ty _, _, e => e
  | .tup xs, v, e => by
    unfold Rel at e ⊢
    obtain ⟨a, vs, e1, e2, e3⟩ := e
    exact ⟨a, vs, e1, k _ _ e2, RelL.mono k e3⟩
theorem RelL.mono {h h' : Heap} (k : TK h h') : ∀ {xs : List AV} {vs : List Value}, RelL h xs vs → RelL h' xs vs
  | [], _, e => e
  | x :: xs, vs, e => by
    unfold RelL at e ⊢
    obtain ⟨v, r, e1, e2, e3⟩ := e
    exact ⟨v, r, e1, Rel.mono k e2, RelL.mono k e3⟩
end

theorem RelL.length {h : Heap} : ∀ {xs : List AV} {vs : List Value}, RelL h xs vs → vs.length = xs.length
  | [], _, e => by unfold RelL at e; subst e; rfl
  | x :: xs, vs, e => by
    unfold RelL at e
    obtain ⟨v, r, e1, _, e3⟩ := e
    subst e1
    simp [RelL.length e3]
theorem RelL.get {h : Heap} : ∀ {xs : List AV} {vs : List Value}, RelL h xs vs → ∀ {i : Nat} {x : AV}, xs[i]? = some x → ∃ v, vs[i]? = some v ∧ Rel h x v
  | [], _, _, i, x, hx => by simp at hx
  | y :: xs, vs, e, i, x, hx => by
    unfold RelL at e
    obtain ⟨v, r, e1, e2, e3⟩ := e
    subst e1
    cases i with
    | zero => simp at hx; subst hx; exact ⟨v, rfl, e2⟩
    | succ i => simp at hx; simpa using RelL.get e3 hx
theorem RelL.append {h : Heap} : ∀ {xs ys : List AV} {vs ws : List Value}, RelL h xs vs → RelL h ys ws → RelL h (xs ++ ys) (vs ++ ws)
  | [], ys, vs, ws, e, e' => by unfold RelL at e; subst e; exact e'
  | x :: xs, ys, vs, ws, e, e' => by
    unfold RelL at e
    obtain ⟨v, r, e1, e2, e3⟩ := e
    subst e1
    show RelL h (x :: (xs ++ ys)) (v :: (r ++ ws))
    unfold RelL
    exact ⟨v, _, rfl, e2, RelL.append e3 e'⟩
theorem RelL.nil {h : Heap} : RelL h [] [] := by unfold RelL; rfl
theorem RelL.cons {h : Heap} {x : AV} {xs : List AV} {v : Value} {vs : List Value} (a : Rel h x v) (b : RelL h xs vs) : RelL h (x :: xs) (v :: vs) := by
  unfold RelL; exact ⟨v, vs, rfl, a, b⟩

/-! ## objects -/
inductive AO where
  | list (xs : List AV)
  | dS (kvs : List (Str × AV))
  | dI (kvs : List (Int × AV))
  | inst (C d : Addr)
  | range (lo hi : Int)
  | cell (x : Option AV)
  | attrs (kvs : List (Str × AV))
  | exc (d : Option Addr)
noncomputable abbrev Led := List (Addr × AO)

noncomputable def RelK {K : Type} (h : Heap) : List (K × AV) → List (K × Value) → Prop
  | [], vs => vs = []
  | x :: xs, vs => ∃ v r, vs = (x.1, v) :: r ∧ Rel h x.2 v ∧ RelK h xs r
theorem RelK.mono {K : Type} {h h' : Heap} (k : TK h h') : ∀ {xs : List (K × AV)} {vs : List (K × Value)}, RelK h xs vs → RelK h' xs vs
  | [], _, e => e
  | _ :: _, _, ⟨v, r, e1, e2, e3⟩ => ⟨v, r, e1, Rel.mono k e2, RelK.mono k e3⟩

noncomputable def EntsR (h : Heap) : List (Str × AV) → List DictEntry → Prop
  | [], es => es = []
  | x :: xs, es => ∃ e r, es = e :: r ∧ (∃ t, e.key = .str x.1 t) ∧ Rel h x.2 e.val ∧ EntsR h xs r
theorem EntsR.mono {h h' : Heap} (k : TK h h') : ∀ {xs : List (Str × AV)} {es : List DictEntry}, EntsR h xs es → EntsR h' xs es
  | [], _, e => e
  | _ :: _, _, ⟨v, r, e1, e2, e3, e4⟩ => ⟨v, r, e1, e2, Rel.mono k e3, EntsR.mono k e4⟩

noncomputable def ObjIs (w : World) (h : Heap) (a : Addr) : AO → Prop
  | .list xs => ∃ vs n, h.get? a = some (listOf (List.toArray vs) n) ∧ RelL h xs vs
  | .dS kvs => ∃ vs, h.DictOf (strKind PW w) a vs ∧ RelK h kvs vs
  | .dI kvs => ∃ vs, h.DictOf (intKind PW w) a vs ∧ RelK h kvs vs
  | .inst C d => h.get? a = some ⟨.ref C, some d, .plain, #[]⟩
  | .range lo hi => ∃ t u v, IsRange h a lo hi 1 t u v
  | .cell none => ∃ v, h.IsCell a v
  | .attrs kvs => ∃ es n, h.get? a = some { cls := .type "dict", data := .dict (List.toArray es) n } ∧ EntsR h kvs es ∧ (kvs.map (·.1)).Nodup
  | .exc d => ∃ t, h.get? a = some ⟨.ref 58, d, .fields #[.ref t, .none, .none, .none, .bool false, .none], #[]⟩
  | .cell (some x) => ∃ v, h.IsCell a (some v) ∧ Rel h x v

theorem not_tup {h : Heap} {a : Addr} {o : Obj} (e : h.get? a = some o) (hn : o.cls ≠ .type "tuple") : ∀ vs, ¬ IsTup h a vs := by
  rintro vs ⟨o', e', hc, _⟩
  rw [e] at e'; cases e'; exact hn hc
theorem cell_tup {h : Heap} {a : Addr} {v : Option Value} (x : h.IsCell a v) : ∀ vs, ¬ IsTup h a vs := by
  rintro vs ⟨o', e', hc, n, hd⟩
  obtain ⟨o, e, d⟩ := x
  rw [e] at e'; cases e'; rw [d] at hd; cases hd
theorem ObjIs.there {w : World} {h : Heap} {a : Addr} {x : AO} (e : ObjIs w h a x) : ∃ o, h.get? a = some o ∧ ∀ vs, ¬ IsTup h a vs := by
  cases x with
  | list xs => obtain ⟨vs, n, e, _⟩ := e; exact ⟨_, e, not_tup e (by simp)⟩
  | dS kvs => obtain ⟨vs, ⟨o, es, ep, e, hx, _⟩, _⟩ := e; exact ⟨o, e, not_tup e (by rw [hx.1]; simp)⟩
  | dI kvs => obtain ⟨vs, ⟨o, es, ep, e, hx, _⟩, _⟩ := e; exact ⟨o, e, not_tup e (by rw [hx.1]; simp)⟩
  | inst C d => exact ⟨_, e, not_tup e (by simp)⟩
  | range lo hi => obtain ⟨t, u, v, e⟩ := e; exact ⟨_, e, not_tup e (by simp)⟩
  | attrs kvs => obtain ⟨es, n, e, _⟩ := e; exact ⟨_, e, not_tup e (by simp)⟩
  | exc d => obtain ⟨t, e⟩ := e; exact ⟨_, e, not_tup e (by simp)⟩
  | cell x =>
    cases x with
    | none => obtain ⟨v, e⟩ := e; obtain ⟨o, e1, _⟩ := id e; exact ⟨o, e1, cell_tup e⟩
    | some x => obtain ⟨v, e, _⟩ := e; obtain ⟨o, e1, _⟩ := id e; exact ⟨o, e1, cell_tup e⟩
theorem ObjIs.keep {w : World} {h h' : Heap} {a : Addr} {x : AO} (e : ObjIs w h a x) (k : TK h h') (ha : ∀ o, h.get? a = some o → h'.get? a = some o) : ObjIs w h' a x := by
  cases x with
  | list xs => obtain ⟨vs, n, e, r⟩ := e; exact ⟨vs, n, ha _ e, r.mono k⟩
  | dS kvs => obtain ⟨vs, ⟨o, es, ep, e, hx⟩, r⟩ := e; exact ⟨vs, ⟨o, es, ep, ha _ e, hx⟩, r.mono k⟩
  | dI kvs => obtain ⟨vs, ⟨o, es, ep, e, hx⟩, r⟩ := e; exact ⟨vs, ⟨o, es, ep, ha _ e, hx⟩, r.mono k⟩
  | inst C d => exact ha _ e
  | range lo hi => obtain ⟨t, u, v, e⟩ := e; exact ⟨t, u, v, ha _ e⟩
  | attrs kvs => obtain ⟨es, n, e, r, nd⟩ := e; exact ⟨es, n, ha _ e, r.mono k, nd⟩
  | exc d => obtain ⟨t, e⟩ := e; exact ⟨t, ha _ e⟩
  | cell x =>
    cases x with
    | none => obtain ⟨v, o, e, d⟩ := e; exact ⟨v, o, ha _ e, d⟩
    | some x => obtain ⟨v, ⟨o, e, d⟩, r⟩ := e; exact ⟨v, ⟨o, ha _ e, d⟩, r.mono k⟩

/-! ## an activation -/
structure Act (sc : Scope) where
  w : World
  A : Around
  E : Value → Shared → Prop
  qual : Str
  L : Addr
  cl : List (Str × Addr)
  fn : Option Addr
  cd : Value
  fr : Option Addr
  h₀ : Heap
  gens : Array GenState
  os : OsState
  mg : Str → Option Value
  mb : Str → Option Value
  room : Nat
  hd : Bool
  X : Flow → Shared → Prop

noncomputable def Act.env {sc : Scope} (a : Act sc) : Env := { scope := sc, locals := a.L, globals := mainGlobals, cells := a.cl, qual := a.qual, func := a.fn, code := a.cd, frame := a.fr, builtins := builtinsNs }
noncomputable abbrev Act.M {sc : Scope} (a : Act sc) : Model := model PW a.w

noncomputable def Glob (w : World) (mg mb : Str → Option Value) (h : Heap) : Prop := TopRead VW LS mg mb h ∧ (KF w.params).In h
theorem Glob.keeps {w : World} {mg mb : Str → Option Value} {h h' : Heap} (g : Glob w mg mb h) (k : ∀ b o, h.get? b = some o → h'.get? b = some o) : Glob w mg mb h' :=
  ⟨g.1.keeps k, g.2.keeps k⟩

noncomputable def Room (b : Bool) (A : Around) (n : Nat) : Prop := (b = true → A.handled = none) ∧ A.depth + n < recursionLimit ∧ A.units + 10 * n < cLine ∧ 0 < n

/-- the frames around -/
noncomputable def frs (l : List Env) : List Addr := l.filterMap (·.frame)
noncomputable def FrOk (A : Around) (P : Addr → Prop) : Prop := ∃ l, A.frames = some l ∧ ∀ env ∈ l, env.scope.kind ≠ .module ∧ ∃ L, env.frame = some L ∧ P L
noncomputable def Plain (h : Heap) (L : Addr) : Prop := ∃ o, h.get? L = some o ∧ (∀ vs, o.data ≠ .fields vs) ∧ ∀ vs n, o.data ≠ .seq vs n
theorem FrOk.mono {A : Around} {P Q : Addr → Prop} (x : FrOk A P) (h : ∀ L, P L → Q L) : FrOk A Q :=
  let ⟨l, e, r⟩ := x; ⟨l, e, fun env hm => let ⟨k, L, f, p⟩ := r env hm; ⟨k, L, f, h L p⟩⟩
theorem Plain.keeps {h h' : Heap} (k : ∀ b o, h.get? b = some o → h'.get? b = some o) {L : Addr} (x : Plain h L) : Plain h' L := let ⟨o, e, r⟩ := x; ⟨o, k _ _ e, r⟩

structure Act.Ok {sc : Scope} (a : Act sc) : Prop where
  kind : sc.kind = .function
  frs : FrOk a.A fun L => L = a.L ∨ Plain a.h₀ L
  glob : Glob a.w a.mg a.mb a.h₀
  room : Room a.hd a.A a.room
  esc : ∀ f s, a.X f s → ∃ v, f = .ret v

noncomputable def LocOk (h : Heap) (m : Str → Option Value) (loc : Loc) : Prop := ∀ x av, (x, some av) ∈ loc → ∃ v, m x = some v ∧ Rel h av v

structure Rep {sc : Scope} (a : Act sc) (loc : Loc) (led : Led) (s : Shared) : Prop where
  gens : s.gens = a.gens
  os : s.os = a.os
  keep : ∀ b o, a.h₀.get? b = some o → s.heap.get? b = some o
  ns : ∃ m, s.heap.Ns a.L m ∧ LocOk s.heap m loc
  keys : (loc.map (·.1)).Nodup
  kinds : ∀ x ∈ loc.map (·.1), sc.names.lookup x = some .local ∧ (x == ("__debug__" : Str)) = false
  objs : ∀ p ∈ led, ObjIs a.w s.heap p.1 p.2
  apart : ∀ p ∈ led, p.1 ≠ a.L ∧ a.h₀.get? p.1 = none ∧ mainGlobals < p.1
  nodup : (led.map (·.1)).Nodup
  fresh : a.h₀.get? a.L = none

/-- the locals' dict is no tuple -/
theorem ns_cls {h : Heap} {L : Addr} {m : Str → Option Value} (n : h.Ns L m) : ∀ vs, ¬ IsTup h L vs := by
  rintro vs ⟨o, e, hc, n', hd⟩
  obtain ⟨o', es, ep, e', hd', _⟩ := n
  rw [e] at e'; cases e'; rw [hd] at hd'; cases hd'
section
variable {sc : Scope} {a : Act sc} {loc : Loc} {led : Led} {s : Shared}

/-- any growth that leaves the locals' dict and the ledger -/
theorem Rep.grow (R : Rep a loc led s) {h' : Heap} (hk : ∀ b o, s.heap.get? b = some o → h'.get? b = some o) (tk : Nat) (dr : Drawn) : Rep a loc led { s with heap := h', toks := tk, drawn := dr } := by
  obtain ⟨m, hn, hl⟩ := R.ns
  have tk' := TK.keeps hk
  exact ⟨R.gens, R.os, fun b o e => hk b o (R.keep b o e), ⟨m, hn.keeps hk, fun x av hx => let ⟨v, e, r⟩ := hl x av hx; ⟨v, e, r.mono tk'⟩⟩, R.keys, R.kinds,
    fun p hp => (R.objs p hp).keep tk' (fun o e => hk _ o e), R.apart, R.nodup, R.fresh⟩
theorem Rep.toks (R : Rep a loc led s) (tk : Nat) : Rep a loc led { s with toks := tk } := R.grow (fun _ _ e => e) tk s.drawn

/-- the ledger or the locals, less -/
theorem Rep.less (R : Rep a loc led s) {led' : Led} (hs : ∀ p ∈ led', p ∈ led) (hn : (led'.map (·.1)).Nodup) : Rep a loc led' s :=
  ⟨R.gens, R.os, R.keep, R.ns, R.keys, R.kinds, fun p hp => R.objs p (hs p hp), fun p hp => R.apart p (hs p hp), hn, R.fresh⟩
theorem Rep.locs (R : Rep a loc led s) {loc' : Loc} (hs : ∀ x av, (x, some av) ∈ loc' → (x, some av) ∈ loc) (hn : loc'.map (·.1) = loc.map (·.1)) : Rep a loc' led s :=
  let ⟨m, n, l⟩ := R.ns
  ⟨R.gens, R.os, R.keep, ⟨m, n, fun x av h => l x av (hs x av h)⟩, hn ▸ R.keys, hn ▸ R.kinds, R.objs, R.apart, R.nodup, R.fresh⟩
end

/-! ### the ledger, ordered anew -/
inductive TakeO (d : Addr) (x : AO) : Led → Led → Prop
  | here {r} : TakeO d x ((d, x) :: r) r
  | there {p r r'} : TakeO d x r r' → TakeO d x (p :: r) (p :: r')
inductive PickO : Led → Led → Led → Prop
  | nil {led} : PickO led [] led
  | cons {led led2 l1 rest d x} : TakeO d x led led2 → PickO led2 l1 rest → PickO led ((d, x) :: l1) rest
theorem TakeO.perm {d : Addr} {x : AO} {l l' : Led} (h : TakeO d x l l') : l.Perm ((d, x) :: l') := by
  induction h with
  | here => exact .refl _
  | there _ ih => exact (List.Perm.cons _ ih).trans (List.Perm.swap ..)
theorem PickO.perm {l l1 rest : Led} (h : PickO l l1 rest) : l.Perm (l1 ++ rest) := by
  induction h with
  | nil => exact .refl _
  | cons t _ ih => exact t.perm.trans (List.Perm.cons _ ih)
/-- two ledgers, one behind the other -/
inductive AppO : Led → Led → Led → Prop
  | nil {r} : AppO [] r r
  | cons {p l r l2} : AppO l r l2 → AppO (p :: l) r (p :: l2)
theorem AppO.eq {l r l2 : Led} (h : AppO l r l2) : l ++ r = l2 := by
  induction h with
  | nil => rfl
  | cons _ ih => rw [List.cons_append, ih]
inductive Appd (l r : Led) (P : Led → Prop) : Prop
  | intro (l2 : Led) (p : AppO l r l2) (h : P l2)
theorem Appd.mk {l r l2 : Led} {P : Led → Prop} (p : AppO l r l2) (h : P l2) : Appd l r P := ⟨l2, p, h⟩
theorem Appd.out {l r : Led} {P : Led → Prop} (x : Appd l r P) : P (l ++ r) := let ⟨_, p, h⟩ := x; p.eq ▸ h
/-- the ledger, ordered anew, says so; what is left is dropped -/
inductive Has (led : Led) (P : Led → Prop) : Prop
  | intro (led' rest : Led) (p : PickO led led' rest) (h : P led')
theorem Has.mk {led led' rest : Led} {P : Led → Prop} (p : PickO led led' rest) (h : P led') : Has led P := ⟨led', rest, p, h⟩

section
variable {sc : Scope} {a : Act sc} {loc : Loc} {led : Led} {s : Shared}
theorem Rep.perm (R : Rep a loc led s) {l1 rest : Led} (p : led.Perm (l1 ++ rest)) : Rep a loc (l1 ++ rest) s :=
  R.less (fun q hq => p.symm.subset hq) ((p.map _).nodup_iff.mp R.nodup)
theorem Rep.left {l1 rest : Led} (R : Rep a loc (l1 ++ rest) s) : Rep a loc l1 s :=
  R.less (fun q hq => List.mem_append_left _ hq) (by have := R.nodup; rw [List.map_append, List.nodup_append] at this; exact this.1)
theorem Rep.right {l1 rest : Led} (R : Rep a loc (l1 ++ rest) s) : Rep a loc rest s :=
  R.less (fun q hq => List.mem_append_right _ hq) (by have := R.nodup; rw [List.map_append, List.nodup_append] at this; exact this.2.1)
theorem Rep.has (R : Rep a loc led s) {P : Led → Prop} (h : Has led P) : ∃ led', P led' ∧ Rep a loc led' s :=
  let ⟨l, _, p, x⟩ := h; ⟨l, x, (R.perm p.perm).left⟩
end

/-! ## triples -/
noncomputable abbrev KV := AV → Loc → Led → Prop

inductive Post {sc : Scope} (a : Act sc) (h : Heap) (K : KV) (v : Value) (s' : Shared) : Prop
  | intro (av : AV) (loc : Loc) (led : Led) (k : K av loc led) (R : Rep a loc led s') (t : TK h s'.heap) (r : Rel s'.heap av v)

/-- a tree that gives a value -/
noncomputable def Ev {sc : Scope} (a : Act sc) (t : Sem Value) (loc : Loc) (led : Led) (K : KV) : Prop :=
  ∀ s, Rep a loc led s → wpAny a.M a.A t (Post a s.heap K) a.E s
/-- a list of trees -/
inductive PostL {sc : Scope} (a : Act sc) (h : Heap) (K : List AV → Loc → Led → Prop) (v : List Value) (s' : Shared) : Prop
  | intro (av : List AV) (loc : Loc) (led : Led) (k : K av loc led) (R : Rep a loc led s') (t : TK h s'.heap) (r : RelL s'.heap av v)
noncomputable def EvL {sc : Scope} (a : Act sc) (es : List Expr) (pos : Pos) (loc : Loc) (led : Led) (K : List AV → Loc → Led → Prop) : Prop :=
  ∀ s, Rep a loc led s → wpAny a.M a.A (spliced (backTo pos (starEach es a.env))) (PostL a s.heap K) a.E s
/-- a test -/
inductive PostB {sc : Scope} (a : Act sc) (h : Heap) (K : Bool → Loc → Led → Prop) (b : Bool) (s' : Shared) : Prop
  | intro (loc : Loc) (led : Led) (k : K b loc led) (R : Rep a loc led s') (t : TK h s'.heap)
noncomputable def EvB {sc : Scope} (a : Act sc) (t : Sem Bool) (loc : Loc) (led : Led) (K : Bool → Loc → Led → Prop) : Prop :=
  ∀ s, Rep a loc led s → wpAny a.M a.A t (PostB a s.heap K) a.E s
/-- flows -/
inductive AF where
  | next | brk | cont
  | ret (v : AV)
noncomputable def RelF (h : Heap) : AF → Flow → Prop
  | .next, f => f = .next
  | .brk, f => f = .brk
  | .cont, f => f = .cont
  | .ret x, f => ∃ v, f = .ret v ∧ Rel h x v
inductive PostN {sc : Scope} (a : Act sc) (h : Heap) (K : AF → Loc → Led → Prop) (f : Flow) (s' : Shared) : Prop
  | intro (af : AF) (loc : Loc) (led : Led) (k : K af loc led) (R : Rep a loc led s') (t : TK h s'.heap) (r : RelF s'.heap af f)
noncomputable def PostF {sc : Scope} (a : Act sc) (h : Heap) (K : AF → Loc → Led → Prop) (f : Flow) (s' : Shared) : Prop :=
  PostN a h K f s' ∨ a.X f s'
noncomputable def Ex {sc : Scope} (a : Act sc) (t : Sem Flow) (loc : Loc) (led : Led) (K : AF → Loc → Led → Prop) : Prop :=
  ∀ s, Rep a loc led s → wpAny a.M a.A t (PostF a s.heap K) a.E s
/-- a tree of no value -/
inductive PostU {sc : Scope} (a : Act sc) (h : Heap) (K : Loc → Led → Prop) (u : Unit) (s' : Shared) : Prop
  | intro (loc : Loc) (led : Led) (k : K loc led) (R : Rep a loc led s') (t : TK h s'.heap)
noncomputable def EvU {sc : Scope} (a : Act sc) (t : Sem Unit) (loc : Loc) (led : Led) (K : Loc → Led → Prop) : Prop :=
  ∀ s, Rep a loc led s → wpAny a.M a.A t (PostU a s.heap K) a.E s

/-- operations upon values -/
noncomputable def Op1 {sc : Scope} (a : Act sc) (t : Value → Sem Value) (x : AV) (loc : Loc) (led : Led) (K : KV) : Prop :=
  ∀ s v, Rep a loc led s → Rel s.heap x v → wpAny a.M a.A (t v) (Post a s.heap K) a.E s
noncomputable def Op2 {sc : Scope} (a : Act sc) (t : Value → Value → Sem Value) (x y : AV) (loc : Loc) (led : Led) (K : KV) : Prop :=
  ∀ s v u, Rep a loc led s → Rel s.heap x v → Rel s.heap y u → wpAny a.M a.A (t v u) (Post a s.heap K) a.E s
noncomputable def OpL {sc : Scope} (a : Act sc) (t : List Value → Sem Value) (xs : List AV) (loc : Loc) (led : Led) (K : KV) : Prop :=
  ∀ s vs, Rep a loc led s → RelL s.heap xs vs → wpAny a.M a.A (t vs) (Post a s.heap K) a.E s
noncomputable def OpB {sc : Scope} (a : Act sc) (t : Value → Sem Bool) (x : AV) (loc : Loc) (led : Led) (K : Bool → Loc → Led → Prop) : Prop :=
  ∀ s v, Rep a loc led s → Rel s.heap x v → wpAny a.M a.A (t v) (PostB a s.heap K) a.E s

section
variable {sc : Scope} {a : Act sc} {loc : Loc} {led : Led} {s : Shared} {h h' : Heap}
theorem Post.from {K : KV} {v : Value} (k : TK h h') (p : Post a h' K v s) : Post a h K v s :=
  let ⟨x, l, d, e, r, t, q⟩ := p; ⟨x, l, d, e, r, k.trans t, q⟩
theorem PostL.from {K : List AV → Loc → Led → Prop} {v : List Value} (k : TK h h') (p : PostL a h' K v s) : PostL a h K v s :=
  let ⟨x, l, d, e, r, t, q⟩ := p; ⟨x, l, d, e, r, k.trans t, q⟩
theorem PostB.from {K : Bool → Loc → Led → Prop} {v : Bool} (k : TK h h') (p : PostB a h' K v s) : PostB a h K v s :=
  let ⟨l, d, e, r, t⟩ := p; ⟨l, d, e, r, k.trans t⟩
theorem PostF.from {K : AF → Loc → Led → Prop} {v : Flow} (k : TK h h') (p : PostF a h' K v s) : PostF a h K v s :=
  p.imp (fun ⟨x, l, d, e, r, t, q⟩ => ⟨x, l, d, e, r, k.trans t, q⟩) id
theorem PostU.from {K : Loc → Led → Prop} {v : Unit} (k : TK h h') (p : PostU a h' K v s) : PostU a h K v s :=
  let ⟨l, d, e, r, t⟩ := p; ⟨l, d, e, r, k.trans t⟩

/-- a value at once -/
theorem Post.here {K : KV} {av : AV} {v : Value} (k : K av loc led) (R : Rep a loc led s) (r : Rel s.heap av v) : Post a s.heap K v s := ⟨av, loc, led, k, R, .refl _, r⟩
theorem Post.toks {K : KV} {av : AV} {v : Value} (k : K av loc led) (R : Rep a loc led s) (r : Rel s.heap av v) (tk : Nat) : Post a s.heap K v { s with toks := tk } :=
  ⟨av, loc, led, k, R.toks tk, .refl _, r⟩

/-! ### the locals -/
inductive GetL (x : Str) (av : AV) : Loc → Prop
  | here {r} : GetL x av ((x, some av) :: r)
  | there {p r} : GetL x av r → GetL x av (p :: r)
theorem GetL.mem {x : Str} {av : AV} {l : Loc} (h : GetL x av l) : (x, some av) ∈ l := by
  induction h with
  | here => exact .head _
  | there _ ih => exact .tail _ ih
inductive SetL (x : Str) (av : AV) : Loc → Loc → Prop
  | here {o r} : SetL x av ((x, o) :: r) ((x, some av) :: r)
  | there {p r r'} : SetL x av r r' → SetL x av (p :: r) (p :: r')
theorem SetL.keys {x : Str} {av : AV} {l l' : Loc} (h : SetL x av l l') : l'.map (·.1) = l.map (·.1) := by
  induction h with
  | here => rfl
  | there _ ih => rw [List.map_cons, List.map_cons, ih]
theorem SetL.mem {x : Str} {av : AV} {l l' : Loc} (h : SetL x av l l') : x ∈ l.map (·.1) := by
  induction h with
  | here => exact .head _
  | there _ ih => exact .tail _ ih
theorem SetL.of {x : Str} {av : AV} {l l' : Loc} (h : SetL x av l l') : (l.map (·.1)).Nodup → ∀ {y bv}, (y, some bv) ∈ l' → (y = x ∧ bv = av) ∨ (y ≠ x ∧ (y, some bv) ∈ l) := by
  induction h with
  | here =>
    intro n y bv hm
    rcases List.mem_cons.mp hm with e | hm
    · cases e; exact .inl ⟨rfl, rfl⟩
    · exact .inr ⟨fun e => (List.nodup_cons.mp n).1 (List.mem_map.mpr ⟨_, hm, e⟩), .tail _ hm⟩
  | there h ih =>
    intro n y bv hm
    rcases List.mem_cons.mp hm with e | hm
    · subst e
      exact .inr ⟨fun e => (List.nodup_cons.mp n).1 (e ▸ h.mem), .head _⟩
    · exact (ih (List.nodup_cons.mp n).2 hm).imp id fun h1 => ⟨h1.1, .tail _ h1.2⟩

theorem env_locals : a.env.locals = a.L := rfl

theorem kind_env {x : Str} {k : NameKind} (h : sc.names.lookup x = some k) : a.env.kindOf x = some k := h
theorem Ev_loc {x : Str} {pos : Pos} {av : AV} {K : KV} (O : a.Ok) (g : GetL x av loc) (k : K av loc led) :
    Ev a (eval (.Name x pos) a.env) loc led K := by
  intro s R
  obtain ⟨m, n, l⟩ := R.ns
  obtain ⟨v, e, r⟩ := l x av g.mem
  obtain ⟨hx, hd⟩ := R.kinds x (List.mem_map_of_mem g.mem)
  exact wpAny_Name (wpAny_loadName_local O.kind (kind_env hx) n e (.here k R r)) hd

theorem EvU_store {x : Str} {av : AV} {v : Value} {loc' : Loc} (R : Rep a loc led s) (O : a.Ok) (r : Rel s.heap av v) (g : SetL x av loc loc')
    {Q : Unit → Shared → Prop} (h : ∀ h' , Rep a loc' led { s with heap := h', toks := s.toks + 1 } → TK s.heap h' → Q () { s with heap := h', toks := s.toks + 1 }) :
    wpAny a.M a.A (storeName a.env x v) Q a.E s := by
  obtain ⟨m, n, l⟩ := R.ns
  have hx : a.env.kindOf x = some .local := kind_env (R.kinds x g.mem).1
  refine wpAny_storeName_local hx n (fun h' n' hs => h h' ?_ ?_) ?_
  · have tk : TK s.heap h' := TK.but hs (ns_cls n)
    refine ⟨R.gens, R.os, fun b o e => ?_, ⟨_, n', fun y bv hm => ?_⟩, by rw [g.keys]; exact R.keys, by rw [g.keys]; exact R.kinds, fun p hp => ?_, R.apart, R.nodup, R.fresh⟩
    · refine (hs.2 b ?_).trans (R.keep b o e)
      rintro rfl
      have := R.fresh
      rw [env_locals] at e
      rw [e] at this; cases this
    · rcases g.of R.keys hm with ⟨rfl, rfl⟩ | ⟨hne, hm⟩
      · exact ⟨v, by simp, r.mono tk⟩
      · obtain ⟨v', e', r'⟩ := l y bv hm
        exact ⟨v', by simp [hne, e'], r'.mono tk⟩
    · exact (R.objs p hp).keep tk fun o e => (hs.2 _ (R.apart p hp).1).trans e
  · exact TK.but hs (ns_cls n)
  · show (sc.kind == .class || (sc.kind == .module && a.L != mainGlobals)) = false
    rw [O.kind]; rfl
end

end

section
open PySem PySem.W PyProof.Rows
noncomputable abbrev KSt := AF → Loc → Led → Prop
noncomputable abbrev KBo := Bool → Loc → Led → Prop
noncomputable abbrev KLi := List AV → Loc → Led → Prop
noncomputable abbrev KUn := Loc → Led → Prop
section
variable {sc : Scope} {a : Act sc} {loc : Loc} {led : Led} {s : Shared} {K : KV} {KS : KSt} {KB : KBo} {KL : KLi} {KU : KUn}

/-! ### constants, names -/
theorem Ev_int {i : Int} {k : Nat} {pos : Pos} (h : K (.int i) loc led) : Ev a (eval (.Constant (.int i) k pos) a.env) loc led K :=
  fun _ R => wpAny_Constant_int (.toks h R ⟨_, rfl⟩ _)
theorem Ev_str {x : Str} {k : Nat} {pos : Pos} (h : K (.str x) loc led) : Ev a (eval (.Constant (.str x) k pos) a.env) loc led K :=
  fun _ R => wpAny_Constant_str (.toks h R ⟨_, rfl⟩ _)
theorem Ev_none {k : Nat} {pos : Pos} (h : K .none loc led) : Ev a (eval (.Constant .none k pos) a.env) loc led K :=
  fun _ R => wpAny_Constant_none (.here h R rfl)
theorem Ev_bool {b : Bool} {k : Nat} {pos : Pos} (h : K (.bool b) loc led) : Ev a (eval (.Constant (.bool b) k pos) a.env) loc led K :=
  fun _ R => wpAny_Constant_bool (.here h R rfl)

/-- what a global name says -/
noncomputable def Gl (x : Str) (v : Value) : Prop := ∀ {w : World} {mg mb : Str → Option Value} {h : Heap}, Glob w mg mb h → mg x = some v ∨ (mg x = none ∧ mb x = some v)
theorem Gl.own {x : Str} {v : Value} (e : ∀ w : World, nsIn (KF w.params) mainGlobals x = some (some v)) : Gl x v := fun g => .inl (mg_of g.2 g.1.g (e _))
theorem Gl.boot {x : Str} {v : Value} (e : ∀ w : World, nsIn (KF w.params) mainGlobals x = some none) (hv : bootBuiltins x = some v) (hn : x ≠ "__name__") : Gl x v :=
  fun g => .inr ⟨mg_none_of g.2 g.1.g (e _), (g.1.builtins x hn).trans hv⟩
/-- the global names of a scope, and what they say -/
noncomputable def GOk (sc : Scope) (gs : List (Str × Value)) : Prop := ∀ p ∈ gs, sc.names.lookup p.1 = some .globalImplicit ∧ (p.1 == ("__debug__" : Str)) = false ∧ Gl p.1 p.2
theorem GOk.nil {sc : Scope} : GOk sc [] := fun _ h => nomatch h
theorem GOk.cons {sc : Scope} {x : Str} {v : Value} {r : List (Str × Value)} (h : (decide (sc.names.lookup x = some .globalImplicit) && !(x == ("__debug__" : Str))) = true) (g : Gl x v) (t : GOk sc r) : GOk sc ((x, v) :: r) := by
  intro p hp
  rcases List.mem_cons.mp hp with rfl | hp
  · simp only [Bool.and_eq_true, decide_eq_true_eq, Bool.not_eq_true'] at h
    exact ⟨h.1, h.2, g⟩
  · exact t p hp
inductive GetG (x : Str) (v : Value) : List (Str × Value) → Prop
  | here {r} : GetG x v ((x, v) :: r)
  | there {p r} : GetG x v r → GetG x v (p :: r)
theorem GetG.mem {x : Str} {v : Value} {l : List (Str × Value)} (h : GetG x v l) : (x, v) ∈ l := by
  induction h with
  | here => exact .head _
  | there _ ih => exact .tail _ ih
theorem glob_at {v : Value} {x : Str} {pos : Pos} {Q : Value → Shared → Prop} (O : a.Ok) (R : Rep a loc led s) {gs : List (Str × Value)} (G : GOk sc gs) (g : GetG x v gs) (h : Q v s) :
    wpAny a.M a.A (eval (.Name x pos) a.env) Q a.E s := by
  have g := g.mem
  refine Calls.Name_function_global O.kind (kind_env (G _ g).1) ?_ (G _ g).2.1
  rcases (G _ g).2.2 O.glob with e | ⟨e, e'⟩
  · exact Calls.loadGlobal_global (env := a.env) (O.glob.1.g.keeps R.keep) e h
  · exact Calls.loadGlobal_builtin (env := a.env) (O.glob.1.g.keeps R.keep) e (O.glob.1.b.keeps R.keep) e' h
theorem Ev_globR {r : Addr} {x : Str} {pos : Pos} (O : a.Ok) {gs : List (Str × Value)} (G : GOk sc gs) (g : GetG x (.ref r) gs) (k : K (.ref r) loc led) :
    Ev a (eval (.Name x pos) a.env) loc led K := fun _ R => glob_at O R G g (.here k R rfl)
theorem Ev_globT {T : String} {x : Str} {pos : Pos} (O : a.Ok) {gs : List (Str × Value)} (G : GOk sc gs) (g : GetG x (.type T) gs) (k : K (.ty T) loc led) :
    Ev a (eval (.Name x pos) a.env) loc led K := fun _ R => glob_at O R G g (.here k R rfl)
theorem Ev_globI {i : Int} {t : Tok} {x : Str} {pos : Pos} (O : a.Ok) {gs : List (Str × Value)} (G : GOk sc gs) (g : GetG x (.int i t) gs) (k : K (.int i) loc led) :
    Ev a (eval (.Name x pos) a.env) loc led K := fun _ R => glob_at O R G g (.here k R ⟨_, rfl⟩)
theorem Ev_globS {i : Str} {t : Tok} {x : Str} {pos : Pos} (O : a.Ok) {gs : List (Str × Value)} (G : GOk sc gs) (g : GetG x (.str i t) gs) (k : K (.str i) loc led) :
    Ev a (eval (.Name x pos) a.env) loc led K := fun _ R => glob_at O R G g (.here k R ⟨_, rfl⟩)

/-! ### operators -/
noncomputable abbrev cOp2 (a : Act sc) (t : Value → Value → Sem Value) (x : AV) (K : KV) : KV := fun y loc led => Op2 a t x y loc led K
noncomputable abbrev cArg (a : Act sc) (r : Expr) (t : Value → Value → Sem Value) (K : KV) : KV := fun x loc led => Ev a (eval r a.env) loc led (cOp2 a t x K)
theorem Ev_two {l r : Expr} {t : Value → Value → Sem Value} {T : Sem Value} (hT : ∀ {Q : Value → Shared → Prop} {E : Value → Shared → Prop} {s : Shared}, wpAny a.M a.A (eval l a.env) (fun v s₁ => wpAny a.M a.A (eval r a.env) (fun u s₂ => wpAny a.M a.A (t v u) Q E s₂) E s₁) E s → wpAny a.M a.A T Q E s)
    (h : Ev a (eval l a.env) loc led (cArg a r t K)) : Ev a T loc led K := by
  intro s R
  refine hT (wpAny_mono (h s R) (fun v s₁ p => ?_) fun _ _ e => e)
  obtain ⟨x, l1, d1, k1, R1, t1, r1⟩ := p
  refine wpAny_mono (k1 s₁ R1) (fun u s₂ p => ?_) fun _ _ e => e
  obtain ⟨y, l2, d2, k2, R2, t2, r2⟩ := p
  exact wpAny_mono (k2 s₂ v u R2 (r1.mono t2) r2) (fun _ _ p => p.from (t1.trans t2)) fun _ _ e => e
theorem Ev_BinOp {l r : Expr} {op : Operator} {pos : Pos} (h : Ev a (eval l a.env) loc led (cArg a r (binaryOp op) K)) : Ev a (eval (.BinOp l op r pos) a.env) loc led K :=
  Ev_two (fun h => wpAny_BinOp h) h
theorem Ev_Compare {l r : Expr} {op : CmpOp} {pos : Pos} (hm : behindInMarks op r = false) (h : Ev a (eval l a.env) loc led (cArg a r (compareOp op) K)) : Ev a (eval (.Compare l [op] [r] pos) a.env) loc led K :=
  Ev_two (fun h => wpAny_Compare1 h hm) h
theorem Ev_Sub {value slice : Expr} {pos : Pos} (h : Ev a (eval value a.env) loc led (cArg a slice (subscriptTail value slice) K)) : Ev a (eval (.Subscript value slice pos) a.env) loc led K :=
  Ev_two (fun h => Subscript_ h) h
noncomputable abbrev cOp1 (a : Act sc) (t : Value → Sem Value) (K : KV) : KV := fun x loc led => Op1 a t x loc led K
theorem Ev_UnaryOp {x : Expr} {op : UnaryOp} {pos : Pos} (h : Ev a (eval x a.env) loc led (cOp1 a (unaryOp op) K)) : Ev a (eval (.UnaryOp op x pos) a.env) loc led K := by
  intro s R
  refine wpAny_UnaryOp (wpAny_mono (h s R) (fun v s₁ p => ?_) fun _ _ e => e)
  obtain ⟨x, l1, d1, k1, R1, t1, r1⟩ := p
  exact wpAny_mono (k1 s₁ v R1 r1) (fun _ _ p => p.from t1) fun _ _ e => e

section
variable {i j : Int}
theorem add_ii (h : K (.int (i + j)) loc led) : Op2 a (binaryOp .Add) (.int i) (.int j) loc led K := by
  rintro s v u R ⟨t, rfl⟩ ⟨t', rfl⟩; exact add_int (.toks h R ⟨_, rfl⟩ _)
theorem iadd_ii (h : K (.int (i + j)) loc led) : Op2 a (inplaceOp .Add) (.int i) (.int j) loc led K := by
  rintro s v u R ⟨t, rfl⟩ ⟨t', rfl⟩; exact wpAny_iadd_int (.toks h R ⟨_, rfl⟩ _)
theorem sub_ii (h : K (.int (i - j)) loc led) : Op2 a (binaryOp .Sub) (.int i) (.int j) loc led K := by
  rintro s v u R ⟨t, rfl⟩ ⟨t', rfl⟩; exact sub_int (.toks h R ⟨_, rfl⟩ _)
theorem mul_ii (h1 : -(2 ^ 64) < i) (h2 : i < 2 ^ 64) (h : K (.int (i * j)) loc led) : Op2 a (binaryOp .Mult) (.int i) (.int j) loc led K := by
  rintro s v u R ⟨t, rfl⟩ ⟨t', rfl⟩; exact mul_int (.toks h R ⟨_, rfl⟩ _) (PySem.IntMulOk.of_left (PySem.intBits_le_64 h1 h2))
theorem mod_ii (hj : j ≠ 0) (h : K (.int (i.fmod j)) loc led) : Op2 a (binaryOp .Mod) (.int i) (.int j) loc led K := by
  rintro s v u R ⟨t, rfl⟩ ⟨t', rfl⟩; exact mod_int hj (.toks h R ⟨_, rfl⟩ _)
theorem div_ii (hj : j ≠ 0) (hp : Builtin.divisionGoesByPylong i j = false) (h : K (.int (i.fdiv j)) loc led) : Op2 a (binaryOp .FloorDiv) (.int i) (.int j) loc led K := by
  rintro s v u R ⟨t, rfl⟩ ⟨t', rfl⟩; exact floordiv_int hj (.toks h R ⟨_, rfl⟩ _) (.inl hp)
theorem lt_ii (h : K (.bool (decide (i < j))) loc led) : Op2 a (compareOp .Lt) (.int i) (.int j) loc led K := by
  rintro s v u R ⟨t, rfl⟩ ⟨t', rfl⟩; exact lt_int (.here h R rfl)
theorem gt_ii (h : K (.bool (decide (j < i))) loc led) : Op2 a (compareOp .Gt) (.int i) (.int j) loc led K := by
  rintro s v u R ⟨t, rfl⟩ ⟨t', rfl⟩; exact gt_int (.here h R rfl)
theorem le_ii (h : K (.bool (decide (i ≤ j))) loc led) : Op2 a (compareOp .LtE) (.int i) (.int j) loc led K := by
  rintro s v u R ⟨t, rfl⟩ ⟨t', rfl⟩; exact le_int (.here h R rfl)
theorem ge_ii (h : K (.bool (decide (j ≤ i))) loc led) : Op2 a (compareOp .GtE) (.int i) (.int j) loc led K := by
  rintro s v u R ⟨t, rfl⟩ ⟨t', rfl⟩; exact ge_int (.here h R rfl)
theorem eq_ii (h : K (.bool (i == j)) loc led) : Op2 a (compareOp .Eq) (.int i) (.int j) loc led K := by
  rintro s v u R ⟨t, rfl⟩ ⟨t', rfl⟩; exact eq_int (.here h R rfl)
theorem ne_ii (h : K (.bool (i != j)) loc led) : Op2 a (compareOp .NotEq) (.int i) (.int j) loc led K := by
  rintro s v u R ⟨t, rfl⟩ ⟨t', rfl⟩; exact ne_int (.here h R rfl)
theorem neg_i (h : K (.int (-i)) loc led) : Op1 a (unaryOp .USub) (.int i) loc led K := by
  rintro s v R ⟨t, rfl⟩; exact neg_int (.toks h R ⟨_, rfl⟩ _)
end

/-! ### tests -/
theorem truthy_b {b : Bool} (h : KB b loc led) : OpB a truthy (.bool b) loc led KB := by
  rintro s v R rfl; exact wpAny_truthy_bool ⟨loc, led, h, R, .refl _⟩
noncomputable abbrev cTruthy (a : Act sc) (KB : KBo) : KV := fun x loc led => OpB a truthy x loc led KB
theorem EvB_plain {e : Expr} {whole : Sem Value} (he : isTrue e a.env whole = (do let v ← whole; standAt e.pos; holding [v] (truthy v)))
    (h : Ev a whole loc led (cTruthy a KB)) : EvB a (isTrue e a.env whole) loc led KB := by
  intro s R
  refine isTrue_plain (wpAny_mono (h s R) (fun v s₁ p => ?_) fun _ _ e => e) he
  obtain ⟨x, l1, d1, k1, R1, t1, r1⟩ := p
  exact wpAny_mono (k1 s₁ v R1 r1) (fun _ _ p => p.from t1) fun _ _ e => e
theorem EvB_Compare {l r : Expr} {op : CmpOp} {pos : Pos} {whole : Sem Value} (hm : behindInMarks op r = false)
    (h : Ev a (eval l a.env) loc led (cArg a r (compareOp op) (cTruthy a KB))) : EvB a (isTrue (.Compare l [op] [r] pos) a.env whole) loc led KB := by
  intro s R
  refine wpAny_isTrue_Compare1 (wpAny_mono (h s R) (fun v s₁ p => ?_) fun _ _ e => e) hm
  obtain ⟨x, l1, d1, k1, R1, t1, r1⟩ := p
  refine wpAny_mono (k1 s₁ R1) (fun u s₂ p => ?_) fun _ _ e => e
  obtain ⟨y, l2, d2, k2, R2, t2, r2⟩ := p
  refine wpAny_mono (k2 s₂ v u R2 (r1.mono t2) r2) (fun z s₃ p => ?_) fun _ _ e => e
  obtain ⟨z', l3, d3, k3, R3, t3, r3⟩ := p
  exact wpAny_mono (k3 s₃ z R3 r3) (fun _ _ p => p.from ((t1.trans t2).trans t3)) fun _ _ e => e
/-- both arms of a test, each under what it says -/
noncomputable abbrev Two (b : Bool) (P Q : Prop) : Prop := (b = true → P) ∧ (b = false → Q)
theorem Two.t {b : Bool} {P Q : Prop} (e : b = true) (h : P) : Two b P Q := ⟨fun _ => h, fun e' => (Bool.noConfusion (e.symm.trans e'))⟩
theorem Two.f {b : Bool} {P Q : Prop} (e : b = false) (h : Q) : Two b P Q := ⟨fun e' => (Bool.noConfusion (e.symm.trans e')), fun _ => h⟩
noncomputable abbrev cAnd (a : Act sc) (rest : List Expr) (KB : KBo) : KBo := fun b loc led => Two b (EvB a (allTrue .And rest a.env) loc led KB) (KB false loc led)
noncomputable abbrev cOr (a : Act sc) (rest : List Expr) (KB : KBo) : KBo := fun b loc led => Two b (KB true loc led) (EvB a (allTrue .Or rest a.env) loc led KB)
theorem EvB_BoolOp {op : BoolOp} {values : List Expr} {pos : Pos} {whole : Sem Value} (h : EvB a (allTrue op values a.env) loc led KB) : EvB a (isTrue (.BoolOp op values pos) a.env whole) loc led KB :=
  fun s R => wpAny_isTrue_BoolOp (h s R)
theorem all_nil (h : KB true loc led) : EvB a (allTrue .And [] a.env) loc led KB := fun _ R => wpAny_allTrue_And_nil ⟨loc, led, h, R, .refl _⟩
theorem any_nil (h : KB false loc led) : EvB a (allTrue .Or [] a.env) loc led KB := fun _ R => wpAny_allTrue_Or_nil ⟨loc, led, h, R, .refl _⟩
theorem all_cons {x : Expr} {rest : List Expr} (h : EvB a (isTrue x a.env (eval x a.env)) loc led (cAnd a rest KB)) : EvB a (allTrue .And (x :: rest) a.env) loc led KB := by
  intro s R
  refine wpAny_allTrue_And_cons (wpAny_mono (h s R) (fun b s₁ p => ?_) fun _ _ e => e)
  obtain ⟨l1, d1, k1, R1, t1⟩ := p
  cases b with
  | true => exact wpAny_mono (k1.1 rfl s₁ R1) (fun _ _ p => p.from t1) fun _ _ e => e
  | false => exact ⟨l1, d1, k1.2 rfl, R1, t1⟩
theorem any_cons {x : Expr} {rest : List Expr} (h : EvB a (isTrue x a.env (eval x a.env)) loc led (cOr a rest KB)) : EvB a (allTrue .Or (x :: rest) a.env) loc led KB := by
  intro s R
  refine wpAny_allTrue_Or_cons (wpAny_mono (h s R) (fun b s₁ p => ?_) fun _ _ e => e)
  obtain ⟨l1, d1, k1, R1, t1⟩ := p
  cases b with
  | true => exact ⟨l1, d1, k1.1 rfl, R1, t1⟩
  | false => exact wpAny_mono (k1.2 rfl s₁ R1) (fun _ _ p => p.from t1) fun _ _ e => e
noncomputable abbrev cNot (KB : KBo) : KBo := fun b => KB (!b)
theorem EvB_Not {x : Expr} {pos : Pos} {whole : Sem Value} (h : EvB a (isTrue x a.env (eval x a.env)) loc led (cNot KB)) : EvB a (isTrue (.UnaryOp .Not x pos) a.env whole) loc led KB := by
  intro s R
  refine wpAny_isTrue_Not (wpAny_mono (h s R) (fun b s₁ p => ?_) fun _ _ e => e)
  obtain ⟨l1, d1, k1, R1, t1⟩ := p
  exact ⟨l1, d1, k1, R1, t1⟩
/-- «not» as a value -/
noncomputable abbrev cNotV (K : KV) : KBo := fun b => K (.bool (!b))
theorem not_v {x : AV} (h : OpB a truthy x loc led (cNotV K)) : Op1 a (unaryOp .Not) x loc led K := by
  intro s v R r
  refine not_of (wpAny_mono (h s v R r) (fun b s₁ p => ?_) fun _ _ e => e)
  obtain ⟨l1, d1, k1, R1, t1⟩ := p
  exact ⟨_, l1, d1, k1, R1, t1, rfl⟩
/-- «and», «or» as values -/
noncomputable abbrev cAndB (a : Act sc) (y : Expr) (rest : List Expr) (pos : Pos) (x : AV) (K : KV) : KBo := fun b loc led => Two b (Ev a (eval (.BoolOp .And (y :: rest) pos) a.env) loc led K) (K x loc led)
noncomputable abbrev cAndV (a : Act sc) (y : Expr) (rest : List Expr) (pos : Pos) (K : KV) : KV := fun x loc led => OpB a truthy x loc led (cAndB a y rest pos x K)
theorem Ev_And {x y : Expr} {rest : List Expr} {pos : Pos} (h : Ev a (eval x a.env) loc led (cAndV a y rest pos K)) : Ev a (eval (.BoolOp .And (x :: y :: rest) pos) a.env) loc led K := by
  intro s R
  refine BoolOp_and (wpAny_mono (h s R) (fun v s₁ p => ?_) fun _ _ e => e)
  obtain ⟨x, l1, d1, k1, R1, t1, r1⟩ := p
  refine wpAny_mono (k1 s₁ v R1 r1) (fun b s₂ p => ?_) fun _ _ e => e
  obtain ⟨l2, d2, k2, R2, t2⟩ := p
  cases b with
  | true => exact wpAny_mono (k2.1 rfl s₂ R2) (fun _ _ p => p.from (t1.trans t2)) fun _ _ e => e
  | false => exact ⟨x, l2, d2, k2.2 rfl, R2, t1.trans t2, r1.mono t2⟩
noncomputable abbrev cOrB (a : Act sc) (y : Expr) (rest : List Expr) (pos : Pos) (x : AV) (K : KV) : KBo := fun b loc led => Two b (K x loc led) (Ev a (eval (.BoolOp .Or (y :: rest) pos) a.env) loc led K)
noncomputable abbrev cOrV (a : Act sc) (y : Expr) (rest : List Expr) (pos : Pos) (K : KV) : KV := fun x loc led => OpB a truthy x loc led (cOrB a y rest pos x K)
theorem Ev_Or {x y : Expr} {rest : List Expr} {pos : Pos} (h : Ev a (eval x a.env) loc led (cOrV a y rest pos K)) : Ev a (eval (.BoolOp .Or (x :: y :: rest) pos) a.env) loc led K := by
  intro s R
  refine BoolOp_or (wpAny_mono (h s R) (fun v s₁ p => ?_) fun _ _ e => e)
  obtain ⟨x, l1, d1, k1, R1, t1, r1⟩ := p
  refine wpAny_mono (k1 s₁ v R1 r1) (fun b s₂ p => ?_) fun _ _ e => e
  obtain ⟨l2, d2, k2, R2, t2⟩ := p
  cases b with
  | true => exact ⟨x, l2, d2, k2.1 rfl, R2, t1.trans t2, r1.mono t2⟩
  | false => exact wpAny_mono (k2.2 rfl s₂ R2) (fun _ _ p => p.from (t1.trans t2)) fun _ _ e => e
theorem Ev_Bool1 {op : BoolOp} {x : Expr} {pos : Pos} (h : Ev a (eval x a.env) loc led K) : Ev a (eval (.BoolOp op [x] pos) a.env) loc led K := fun s R => BoolOp_one (h s R)
/-- «x if t else y» -/
noncomputable abbrev cIfExp (a : Act sc) (body orelse : Expr) (K : KV) : KBo := fun b loc led => Two b (Ev a (eval body a.env) loc led K) (Ev a (eval orelse a.env) loc led K)
theorem Ev_IfExp {test body orelse : Expr} {pos : Pos} (h : EvB a (isTrue test a.env (eval test a.env)) loc led (cIfExp a body orelse K)) : Ev a (eval (.IfExp test body orelse pos) a.env) loc led K := by
  intro s R
  refine wpAny_IfExp (wpAny_mono (h s R) (fun b s₁ p => ?_) fun _ _ e => e)
  obtain ⟨l1, d1, k1, R1, t1⟩ := p
  cases b with
  | true => exact wpAny_mono (k1.1 rfl s₁ R1) (fun _ _ p => p.from t1) fun _ _ e => e
  | false => exact wpAny_mono (k1.2 rfl s₁ R1) (fun _ _ p => p.from t1) fun _ _ e => e

/-! ### statements -/
noncomputable abbrev cSeq (a : Act sc) (rest : List Stmt) (KS : KSt) : KSt := fun f loc led => match f with
  | .next => Ex a (execs rest a.env) loc led KS
  | f => KS f loc led
theorem Ex_nil (h : KS .next loc led) : Ex a (execs [] a.env) loc led KS := fun _ R => wpAny_execs_nil (.inl ⟨.next, loc, led, h, R, .refl _, rfl⟩)
theorem Ex_cons {st : Stmt} {rest : List Stmt} (O : a.Ok) (h : Ex a (exec st a.env) loc led (cSeq a rest KS)) : Ex a (execs (st :: rest) a.env) loc led KS := by
  intro s R
  refine wpAny_execs_cons (wpAny_mono (h s R) (fun f s₁ p => ?_) fun _ _ e => e)
  rcases p with ⟨af, l1, d1, k1, R1, t1, r1⟩ | hx
  rotate_left
  · obtain ⟨v, rfl⟩ := O.esc _ _ hx
    exact .inr hx
  cases af with
  | next => cases r1; exact wpAny_mono (k1 s₁ R1) (fun _ _ p => p.from t1) fun _ _ e => e
  | brk => cases r1; exact (.inl ⟨.brk, l1, d1, k1, R1, t1, rfl⟩)
  | cont => cases r1; exact (.inl ⟨.cont, l1, d1, k1, R1, t1, rfl⟩)
  | ret x => obtain ⟨v, rfl, r⟩ := r1; exact (.inl ⟨.ret x, l1, d1, k1, R1, t1, v, rfl, r⟩)
theorem Ex_Pass {pos : Pos} (h : KS .next loc led) : Ex a (exec (.Pass pos) a.env) loc led KS := fun _ R => wpAny_Pass (.inl ⟨.next, loc, led, h, R, .refl _, rfl⟩)
theorem Ex_Break {pos : Pos} (h : KS .brk loc led) : Ex a (exec (.Break pos) a.env) loc led KS := fun _ R => wpAny_Break (.inl ⟨.brk, loc, led, h, R, .refl _, rfl⟩)
theorem Ex_Continue {pos : Pos} (h : KS .cont loc led) : Ex a (exec (.Continue pos) a.env) loc led KS := fun _ R => wpAny_Continue (.inl ⟨.cont, loc, led, h, R, .refl _, rfl⟩)
/-- a name stored: the locals behind it -/
inductive Stored (x : Str) (av : AV) (loc : Loc) (P : Loc → Prop) : Prop
  | intro (loc' : Loc) (g : SetL x av loc loc') (h : P loc')
theorem Stored.mk {x : Str} {av : AV} {loc loc' : Loc} {P : Loc → Prop} (g : SetL x av loc loc') (h : P loc') : Stored x av loc P := ⟨loc', g, h⟩
noncomputable abbrev cNext (KS : KSt) (led : Led) : Loc → Prop := fun loc => KS .next loc led
noncomputable abbrev cAssign (x : Str) (KS : KSt) : KV := fun av loc led => Stored x av loc (cNext KS led)
theorem Ex_Assign {x : Str} {p' pos : Pos} {value : Expr} (O : a.Ok) (hs : swapsWith value (some (.Name x p')) pos.line a.env = pure false)
    (h : Ev a (eval value a.env) loc led (cAssign x KS)) : Ex a (exec (.Assign [.Name x p'] value pos) a.env) loc led KS := by
  intro s R
  refine wpAny_Assign_Name (wpAny_mono (h s R) (fun v s₁ p => ?_) fun _ _ e => e) hs
  obtain ⟨av, l1, d1, ⟨loc', g, k1⟩, R1, t1, r1⟩ := p
  exact EvU_store R1 O r1 g fun h' R' t' => (.inl ⟨.next, loc', d1, k1, R', t1.trans t', rfl⟩)
theorem Ex_AugAssign {x : Str} {p' pos : Pos} {op : Operator} {value : Expr} {av : AV} (O : a.Ok) (g : GetL x av loc)
    (h : Ev a (eval value a.env) loc led (cOp2 a (inplaceOp op) av (cAssign x KS))) : Ex a (exec (.AugAssign (.Name x p') op value pos) a.env) loc led KS := by
  intro s R
  obtain ⟨m, n, l⟩ := R.ns
  obtain ⟨v, e, r⟩ := l x av g.mem
  refine wpAny_AugAssign_Name (wpAny_loadName_local O.kind (kind_env (R.kinds x (List.mem_map_of_mem g.mem)).1) n e ?_)
  refine wpAny_mono (h s R) (fun u s₁ p => ?_) fun _ _ e => e
  obtain ⟨y, l1, d1, k1, R1, t1, r1⟩ := p
  refine wpAny_mono (k1 s₁ v u R1 (r.mono t1) r1) (fun z s₂ p => ?_) fun _ _ e => e
  obtain ⟨z, l2, d2, ⟨loc', g, k2⟩, R2, t2, r2⟩ := p
  exact EvU_store R2 O r2 g fun h' R' t' => (.inl ⟨.next, loc', d2, k2, R', (t1.trans t2).trans t', rfl⟩)
noncomputable abbrev cRet (KS : KSt) : KV := fun av => KS (.ret av)
theorem Ex_Return {e : Expr} {pos : Pos} (h : Ev a (eval e a.env) loc led (cRet KS)) : Ex a (exec (.Return (some e) pos) a.env) loc led KS := by
  intro s R
  refine wpAny_Return_some (wpAny_mono (h s R) (fun v s₁ p => ?_) fun _ _ e => e)
  obtain ⟨av, l1, d1, k1, R1, t1, r1⟩ := p
  exact (.inl ⟨.ret av, l1, d1, k1, R1, t1, v, rfl, r1⟩)
theorem Ex_Return0 {pos : Pos} (h : KS (.ret .none) loc led) : Ex a (exec (.Return none pos) a.env) loc led KS :=
  fun _ R => wpAny_Return_none (.inl ⟨.ret .none, loc, led, h, R, .refl _, .none, rfl, rfl⟩)
noncomputable abbrev cIf (a : Act sc) (body orelse : List Stmt) (KS : KSt) : KBo := fun b loc led => Two b (Ex a (execs body a.env) loc led KS) (Ex a (execs orelse a.env) loc led KS)
theorem Ex_If {test : Expr} {body orelse : List Stmt} {pos : Pos} (h : EvB a (isTrue test a.env (eval test a.env)) loc led (cIf a body orelse KS)) :
    Ex a (exec (.If test body orelse pos) a.env) loc led KS := by
  intro s R
  refine wpAny_If (wpAny_mono (h s R) (fun b s₁ p => ?_) fun _ _ e => e)
  obtain ⟨l1, d1, k1, R1, t1⟩ := p
  cases b with
  | true => exact wpAny_mono (k1.1 rfl s₁ R1) (fun _ _ p => p.from t1) fun _ _ e => e
  | false => exact wpAny_mono (k1.2 rfl s₁ R1) (fun _ _ p => p.from t1) fun _ _ e => e
noncomputable abbrev cExpr (KS : KSt) : KV := fun _ => KS .next
theorem Ex_Expr {e : Expr} {pos : Pos} (hi : interactive a.env = false) (hs : swapsWith e none pos.line a.env = pure false) (h : Ev a (eval e a.env) loc led (cExpr KS)) : Ex a (exec (.Expr e pos) a.env) loc led KS := by
  intro s R
  refine wpAny_Expr_any (wpAny_mono (h s R) (fun v s₁ p => ?_) fun _ _ e => e) hi hs
  obtain ⟨av, l1, d1, k1, R1, t1, r1⟩ := p
  exact (.inl ⟨.next, l1, d1, k1, R1, t1, rfl⟩)

/-! ### lists of arguments -/
theorem EvL_nil {pos : Pos} (h : KL [] loc led) : EvL a [] pos loc led KL := fun _ R => Calls.spliced_nil ⟨[], loc, led, h, R, .refl _, .nil⟩
noncomputable abbrev cCons (x : AV) (KL : KLi) : KLi := fun xs => KL (x :: xs)
noncomputable abbrev cArgs (a : Act sc) (rest : List Expr) (pos : Pos) (KL : KLi) : KV := fun x loc led => EvL a rest pos loc led (cCons x KL)
theorem EvL_cons {e : Expr} {rest : List Expr} {pos : Pos} (he : starEach (e :: rest) a.env = (false, eval e a.env) :: starEach rest a.env)
    (h : Ev a (eval e a.env) loc led (cArgs a rest pos KL)) : EvL a (e :: rest) pos loc led KL := by
  intro s R
  rw [he]
  refine Calls.spliced_cons (wpAny_mono (h s R) (fun v s₁ p => ?_) fun _ _ e => e)
  obtain ⟨x, l1, d1, k1, R1, t1, r1⟩ := p
  refine wpAny_mono (k1 s₁ R1) (fun vs s₂ p => ?_) fun _ _ e => e
  obtain ⟨xs, l2, d2, k2, R2, t2, r2⟩ := p
  exact ⟨x :: xs, l2, d2, k2, R2, t1.trans t2, .cons (r1.mono t2) r2⟩
end

end

section
open PySem PySem.W PyProof.Rows

/-! ## contracts of the text's defs -/
inductive FPost (w : World) (s : Shared) (led : Led) (R : AV → Led → Prop) (v : Value) (s' : Shared) : Prop
  | intro (av : AV) (led' : Led) (hR : R av led') (r : Rel s'.heap av v) (ho : ∀ p ∈ led', ObjIs w s'.heap p.1 p.2 ∧ mainGlobals < p.1) (hn : (led'.map (·.1)).Nodup) (hf : ∀ p ∈ led', p.1 ∈ led.map (·.1) ∨ s.heap.get? p.1 = none)
    (hk : ∀ b o, b ∉ led.map (·.1) → s.heap.get? b = some o → s'.heap.get? b = some o) (hg : s'.gens = s.gens) (hos : s'.os = s.os)

/-- what a raise of Die leaves -/
inductive XPost (w : World) (l : List Env) (s : Shared) (led : Led) (X : Led → Prop) (v : Value) (s' : Shared) : Prop
  | intro (e : Addr) (base : Heap) (a0 : Value) (led' : Led) (he : v = .ref e) (hx : X led') (ho : ∀ p ∈ led', ObjIs w base p.1 p.2 ∧ mainGlobals < p.1 ∧ (p.1 ∈ led.map (·.1) ∨ s.heap.get? p.1 = none)) (hn : (led'.map (·.1)).Nodup) (hb : ∀ b o, b ∉ led.map (·.1) → b ∉ frs l → s.heap.get? b = some o → base.get? b = some o)
    (hfl : Heap.FlyingW base l e (.ref 58) a0 s'.heap) (hsl : ∀ b ∈ frs l, ∀ o, s.heap.get? b = some o → ∃ sl, s'.heap.get? b = some { o with slots := sl }) (hg : s'.gens = s.gens) (hos : s'.os = s.os)

theorem XPost.no {w : World} {l : List Env} {s : Shared} {led : Led} {v : Value} {s' : Shared} (h : XPost w l s led (fun _ => False) v s') : False := by
  obtain ⟨_, _, _, _, _, hx, _, _, _, _, _, _, _⟩ := h
  exact hx
noncomputable def FSXb (b : Bool) (f : Addr) (n : Nat) (args : List AV) (led : Led) (R : AV → Led → Prop) (X : Led → Prop) : Prop :=
  ∀ {w : World} {mg mb : Str → Option Value} {A : Around} {E : Value → Shared → Prop} {s : Shared} {vs : List Value} {g : Heap}, Glob w mg mb g → (∀ b o, g.get? b = some o → s.heap.get? b = some o) →
    (∀ p ∈ led, ObjIs w s.heap p.1 p.2 ∧ g.get? p.1 = none ∧ mainGlobals < p.1) → (led.map (·.1)).Nodup → Room b A n → FrOk A (fun L => Plain s.heap L ∧ L ∉ led.map (·.1)) → RelL s.heap args vs →
    (∀ l e s', A.frames = some l → XPost w l s led X e s' → E e s') → wpAny (model PW w) A (call (.ref f) vs) (FPost w s led R) E s
noncomputable abbrev FSX := FSXb true
noncomputable def FS (f : Addr) (n : Nat) (args : List AV) (led : Led) (R : AV → Led → Prop) : Prop := FSX f n args led R fun _ => False
/-- the same of the code itself, its arguments given in any way -/
noncomputable def FCXb (b : Bool) (f : Addr) (n : Nat) (mk : List Value → Args) (args : List AV) (led : Led) (R : AV → Led → Prop) (X : Led → Prop) : Prop :=
  ∀ {w : World} {mg mb : Str → Option Value} {A : Around} {E : Value → Shared → Prop} {s : Shared} {vs : List Value} {g : Heap}, Glob w mg mb g → (∀ b o, g.get? b = some o → s.heap.get? b = some o) →
    (∀ p ∈ led, ObjIs w s.heap p.1 p.2 ∧ g.get? p.1 = none ∧ mainGlobals < p.1) → (led.map (·.1)).Nodup → Room b A n → FrOk A (fun L => Plain s.heap L ∧ L ∉ led.map (·.1)) → RelL s.heap args vs →
    (∀ l e s', A.frames = some l → XPost w l s led X e s' → E e s') → codeAny (model PW w) A (.call (.ref f) (mk vs)) (fun r s' => match r with | .ok (.ret v) => FPost w s led R v s' | .ok _ => False | .error e => E e s') s
noncomputable abbrev FCX := FCXb true
theorem FSX.of_code {b : Bool} {f : Addr} {n : Nat} {args : List AV} {led : Led} {R : AV → Led → Prop} {X : Led → Prop} (h : FCXb b f n (fun vs => ⟨vs, []⟩) args led R X) : FSXb b f n args led R X :=
  fun hg hgk hled hnod hroom hfr hr hE => wpAny_call (h hg hgk hled hnod hroom hfr hr hE)

theorem Room.le {b b' : Bool} {A : Around} {n m : Nat} (r : Room b A n) (hb : b' = true → b = true) (h : m ≤ n) (h0 : 0 < m) : Room b' A m := ⟨fun e => r.1 (hb e), by have := r.2.1; omega, by have := r.2.2.1; omega, h0⟩

theorem FPost.tk {w : World} {s s' : Shared} {led : Led} (ho : ∀ p ∈ led, ObjIs w s.heap p.1 p.2) (k : ∀ b o, b ∉ led.map (·.1) → s.heap.get? b = some o → s'.heap.get? b = some o) : TK s.heap s'.heap := by
  rintro b vs ⟨o, e, hc, r⟩
  refine ⟨o, k b o (fun hm => ?_) e, hc, r⟩
  obtain ⟨p, hp, rfl⟩ := List.mem_map.mp hm
  obtain ⟨o', e', hn⟩ := (ho p hp).there
  exact hn _ ⟨o, e, hc, r⟩

/-- a new exception, noted nowhere yet -/
noncomputable def NewX (base : Heap) (l : List Env) (e : Addr) (a0 : Value) (h : Heap) : Prop :=
  base.StaysIn h ∧ base.get? e = none ∧ h.FunFrames base l ∧ ∃ oe vs, h.get? e = some oe ∧ oe.cls = .ref 58 ∧ oe.data = .fields vs ∧ vs[0]? = some a0 ∧ vs[1]? = some .none
/-- Die on its way out of this activation -/
structure Thrown {sc : Scope} (a : Act sc) (loc : Loc) (led : Led) (l : List Env) (B : Heap) (e : Addr) (a0 : Value) (s' : Shared) : Prop where
  fr : a.A.frames = some l
  ns : ∃ m, s'.heap.Ns a.L m ∧ LocOk s'.heap m loc
  keys : (loc.map (·.1)).Nodup
  kinds : ∀ x ∈ loc.map (·.1), sc.names.lookup x = some .local ∧ (x == ("__debug__" : Str)) = false
  fresh : a.h₀.get? a.L = none
  objs : ∀ p ∈ led, ObjIs a.w B p.1 p.2
  apart : ∀ p ∈ led, p.1 ≠ a.L ∧ a.h₀.get? p.1 = none ∧ mainGlobals < p.1
  nodup : (led.map (·.1)).Nodup
  base : ∀ b o, a.h₀.get? b = some o → b ∉ frs l → B.get? b = some o
  slots : ∀ b ∈ frs l, ∀ o, a.h₀.get? b = some o → ∃ sl, s'.heap.get? b = some { o with slots := sl }
  fly : NewX B l e a0 s'.heap ∨ Heap.HeldW B l e (.ref 58) a0 a.L s'.heap ∨ Heap.FlyingW B l e (.ref 58) a0 s'.heap
  gens : s'.gens = a.gens
  os : s'.os = a.os
noncomputable def RaiseOk {sc : Scope} (a : Act sc) (X : Loc → Led → Prop) : Prop :=
  (∃ lo, a.A.frames = some (a.env :: lo)) ∧ a.fr = some a.L ∧ ∀ loc led l base e a0 s', Thrown a loc led l base e a0 s' → X loc led → a.E (.ref e) s'

section
variable {sc : Scope} {a : Act sc} {loc : Loc} {led : Led} {s : Shared} {K : KV}

theorem plain_ns {h : Heap} {L : Addr} {m : Str → Option Value} (n : h.Ns L m) : Plain h L := by
  obtain ⟨o, es, ep, e, hd, _⟩ := n
  exact ⟨o, e, ⟨(fun vs q => by rw [hd] at q; cases q), (fun vs n q => by rw [hd] at q; cases q)⟩⟩

/-- the call's end, in the caller's words -/
theorem FPost.back {args : List AV} {led1 rest : Led} {R : AV → Led → Prop} (R0 : Rep a loc (led1 ++ rest) s)
    (k : ∀ av led', R av led' → K av loc (led' ++ rest)) {v : Value} {s' : Shared} (p : FPost a.w s led1 R v s') : Post a s.heap K v s' := by
  have hin : ∀ p ∈ led1, p ∈ led1 ++ rest := fun p hp => List.mem_append_left _ hp
  have hir : ∀ p ∈ rest, p ∈ led1 ++ rest := fun p hp => List.mem_append_right _ hp
  have hnd := R0.nodup
  rw [List.map_append, List.nodup_append] at hnd
  obtain ⟨av, led', hR, hr, ho, hn', hf, hk, hg, hos⟩ := p
  have tk : TK s.heap s'.heap := FPost.tk (fun p hp => R0.objs p (hin p hp)) hk
  have alive : ∀ p ∈ rest, ∀ o, s.heap.get? p.1 = some o → s'.heap.get? p.1 = some o := fun p hp o e => hk _ o (fun hm => hnd.2.2 _ hm _ (List.mem_map_of_mem hp) rfl) e
  obtain ⟨m, ns, l⟩ := R0.ns
  have hL : a.L ∉ led1.map (·.1) := fun hm => by
    obtain ⟨p, hp, e⟩ := List.mem_map.mp hm
    exact (R0.apart p (hin p hp)).1 e
  refine ⟨av, loc, led' ++ rest, k av led' hR, ⟨hg.trans R0.gens, hos.trans R0.os, fun b o e => ?_, ⟨m, ?_, fun x bv hx => let ⟨v', e', r'⟩ := l x bv hx; ⟨v', e', r'.mono tk⟩⟩, R0.keys, R0.kinds, fun p hp => ?_, fun p hp => ?_, ?_, R0.fresh⟩, tk, hr⟩
  · refine hk b o (fun hm => ?_) (R0.keep b o e)
    obtain ⟨p, hp, rfl⟩ := List.mem_map.mp hm
    exact gone e (R0.apart p (hin p hp)).2.1
  · obtain ⟨o, es, ep, e, q⟩ := ns
    exact ⟨o, es, ep, hk _ _ hL e, q⟩
  · rcases List.mem_append.mp hp with hp | hp
    · exact (ho p hp).1
    · exact (R0.objs p (hir p hp)).keep tk (alive p hp)
  · rcases List.mem_append.mp hp with hp | hp
    · rcases hf p hp with hm | hm
      · obtain ⟨q, hq, e⟩ := List.mem_map.mp hm
        have := R0.apart q (hin q hq)
        rw [e] at this; exact this
      · refine ⟨fun e => ?_, ?_, (ho p hp).2⟩
        · obtain ⟨o, es, ep, e', q⟩ := ns
          rw [e, e'] at hm; cases hm
        · cases q : a.h₀.get? p.1 with
          | none => rfl
          | some o => exact gone (R0.keep _ _ q) hm
    · exact R0.apart p (hir p hp)
  · rw [List.map_append, List.nodup_append]
    refine ⟨hn', hnd.2.1, fun x hx y hy e => ?_⟩
    subst e
    obtain ⟨p, hp, e⟩ := List.mem_map.mp hx
    obtain ⟨q, hq, e'⟩ := List.mem_map.mp hy
    rcases hf p hp with hm | hm
    · exact hnd.2.2 x (e ▸ hm) x hy rfl
    · obtain ⟨o, eo, _⟩ := (R0.objs q (hir q hq)).there
      rw [e, ← e', eo] at hm; cases hm

theorem Rep.frOk (O : a.Ok) (R : Rep a loc led s) : FrOk a.A (fun L => Plain s.heap L ∧ L ∉ led.map (·.1)) := by
  refine O.frs.mono fun L hL => ?_
  rcases hL with rfl | hL
  · obtain ⟨m, ns, _⟩ := R.ns
    exact ⟨plain_ns ns, fun hm => let ⟨p, hp, e⟩ := List.mem_map.mp hm; (R.apart p hp).1 e⟩
  · refine ⟨hL.keeps R.keep, fun hm => ?_⟩
    obtain ⟨p, hp, rfl⟩ := List.mem_map.mp hm
    obtain ⟨o, e, _⟩ := hL
    exact gone e (R.apart p hp).2.1

theorem frs_mem {A : Around} {P : Addr → Prop} (x : FrOk A P) {l : List Env} (hl : A.frames = some l) {b : Addr} (hb : b ∈ frs l) : P b := by
  obtain ⟨l', e, r⟩ := x
  rw [hl] at e; cases e
  obtain ⟨env, hm, hf⟩ := List.mem_filterMap.mp hb
  obtain ⟨_, L, f, p⟩ := r env hm
  rw [f] at hf; cases hf; exact p

theorem OpL_FSX {f : Addr} {n : Nat} {args : List AV} {led1 rest : Led} {R : AV → Led → Prop} {X : Led → Prop} {Y : Loc → Led → Prop} (F : FSX f n args led1 R X) (O : a.Ok) (H : a.hd = true) (hn : n ≤ a.room) (h0 : 0 < n) (p : PickO led led1 rest) (Z : RaiseOk a Y)
    (hX : ∀ led', X led' → Appd led' rest (Y loc)) (k : ∀ av led', R av led' → Appd led' rest (K av loc)) : OpL a (fun vs => call (.ref f) vs) args loc led K := by
  intro s vs R0 r
  replace R0 := R0.perm p.perm
  have hin : ∀ p ∈ led1, p ∈ led1 ++ rest := fun p hp => List.mem_append_left _ hp
  have hir : ∀ p ∈ rest, p ∈ led1 ++ rest := fun p hp => List.mem_append_right _ hp
  have hnd := R0.nodup
  rw [List.map_append, List.nodup_append] at hnd
  have hfr := R0.frOk O
  refine wpAny_mono (F (g := a.h₀) (E := a.E) O.glob R0.keep (fun p hp => ⟨R0.objs p (hin p hp), (R0.apart p (hin p hp)).2⟩) hnd.1 (O.room.le (fun _ => H) hn h0) (hfr.mono fun L hL => ⟨hL.1, fun hm => hL.2 (by rw [List.map_append]; exact List.mem_append_left _ hm)⟩) r ?_) (fun v s' p => FPost.back (args := args) R0 (fun av led' hR => (k av led' hR).out) p) fun _ _ e => e
  intro l e s' hl ⟨ea, base, a0, led', he, hx, ho, hnod, hb, hfl, hsl, hg, hos⟩
  subst he
  have hfrL : ∀ b ∈ frs l, Plain s.heap b ∧ b ∉ (led1 ++ rest).map (·.1) := fun b hb => frs_mem hfr hl hb
  have ntup : ∀ b vs, IsTup s.heap b vs → b ∉ led1.map (·.1) ∧ b ∉ frs l := by
    rintro b vs ⟨o, e, hc, nn, hd⟩
    refine ⟨fun hm => ?_, fun hm => ?_⟩
    · obtain ⟨p, hp, rfl⟩ := List.mem_map.mp hm
      obtain ⟨o', e', hn⟩ := (R0.objs p (hin p hp)).there
      exact hn _ ⟨o, e, hc, nn, hd⟩
    · obtain ⟨o', e', _, hs⟩ := (hfrL b hm).1
      rw [e] at e'; cases e'; exact hs _ _ hd
  have tkB : TK s.heap base := fun b vs ht => by
    obtain ⟨h1, h2⟩ := ntup b vs ht
    obtain ⟨o, e, r⟩ := ht
    exact ⟨o, hb b o h1 h2 e, r⟩
  have tkS : TK s.heap s'.heap := tkB.trans (TK.keeps hfl.1)
  obtain ⟨m, ns, hloc⟩ := R0.ns
  have hLl : a.L ∈ frs l ∨ a.L ∉ frs l := Classical.em _
  have hL1 : a.L ∉ led1.map (·.1) := fun hm => by
    obtain ⟨p, hp, e⟩ := List.mem_map.mp hm
    exact (R0.apart p (hin p hp)).1 e
  refine Z.2.2 loc (led' ++ rest) l base ea a0 s' ⟨hl, ⟨m, ?_, fun x av hx => let ⟨v', e', r'⟩ := hloc x av hx; ⟨v', e', r'.mono tkS⟩⟩, R0.keys, R0.kinds, R0.fresh, fun p hp => ?_, fun p hp => ?_, ?_, fun b o e hbf => ?_, fun b hbf o e => ?_, .inr (.inr hfl), hg.trans R0.gens, hos.trans R0.os⟩ (hX led' hx).out
  · obtain ⟨o, es, ep, e, q⟩ := ns
    rcases hLl with h | h
    · obtain ⟨sl, e'⟩ := hsl _ h o e
      exact ⟨_, es, ep, e', q⟩
    · exact ⟨o, es, ep, hfl.1 _ _ (hb _ _ hL1 h e), q⟩
  · rcases List.mem_append.mp hp with hp | hp
    · exact (ho p hp).1
    · refine (R0.objs p (hir p hp)).keep tkB fun o e => hb _ o (fun hm => hnd.2.2 _ hm _ (List.mem_map_of_mem hp) rfl) (fun hm => ?_) e
      exact (hfrL _ hm).2 (by rw [List.map_append]; exact List.mem_append_right _ (List.mem_map_of_mem hp))
  · rcases List.mem_append.mp hp with hp | hp
    · rcases (ho p hp).2.2 with hm | hm
      · obtain ⟨q, hq, e⟩ := List.mem_map.mp hm
        have := R0.apart q (hin q hq)
        rw [e] at this; exact this
      · refine ⟨fun e => ?_, ?_, (ho p hp).2.1⟩
        · obtain ⟨o, es, ep, e', q⟩ := ns
          rw [e, e'] at hm; cases hm
        · cases q : a.h₀.get? p.1 with
          | none => rfl
          | some o => exact gone (R0.keep _ _ q) hm
    · exact R0.apart p (hir p hp)
  · rw [List.map_append, List.nodup_append]
    refine ⟨hnod, hnd.2.1, fun x hx y hy e => ?_⟩
    subst e
    obtain ⟨p, hp, e⟩ := List.mem_map.mp hx
    obtain ⟨q, hq, e'⟩ := List.mem_map.mp hy
    rcases (ho p hp).2.2 with hm | hm
    · exact hnd.2.2 x (e ▸ hm) x hy rfl
    · obtain ⟨o, eo, _⟩ := (R0.objs q (hir q hq)).there
      rw [e, ← e', eo] at hm; cases hm
  · refine hb b o (fun hm => ?_) hbf (R0.keep b o e)
    obtain ⟨p, hp, rfl⟩ := List.mem_map.mp hm
    exact gone e (R0.apart p (hin p hp)).2.1
  · exact hsl b hbf o (R0.keep b o e)
theorem OpL_FSb {b : Bool} {f : Addr} {n : Nat} {args : List AV} {led1 rest : Led} {R : AV → Led → Prop} (F : FSXb b f n args led1 R fun _ => False) (O : a.Ok) (H : b = true → a.hd = true) (hn : n ≤ a.room) (h0 : 0 < n) (p : PickO led led1 rest)
    (k : ∀ av led', R av led' → Appd led' rest (K av loc)) : OpL a (fun vs => call (.ref f) vs) args loc led K := by
  intro s vs R0 r
  replace R0 := R0.perm p.perm
  have hin : ∀ p ∈ led1, p ∈ led1 ++ rest := fun p hp => List.mem_append_left _ hp
  have hnd := R0.nodup
  rw [List.map_append, List.nodup_append] at hnd
  refine wpAny_mono (F (g := a.h₀) (E := a.E) O.glob R0.keep (fun p hp => ⟨R0.objs p (hin p hp), (R0.apart p (hin p hp)).2⟩) hnd.1 (O.room.le H hn h0) ((R0.frOk O).mono fun L hL => ⟨hL.1, fun hm => hL.2 (by rw [List.map_append]; exact List.mem_append_left _ hm)⟩) r ?_) (fun v s' p => FPost.back (args := args) R0 (fun av led' hR => (k av led' hR).out) p) fun _ _ e => e
  intro l e s' _ h
  exact h.no.elim

theorem OpL_FS {f : Addr} {n : Nat} {args : List AV} {led1 rest : Led} {R : AV → Led → Prop} (F : FS f n args led1 R) (O : a.Ok) (H : a.hd = true) (hn : n ≤ a.room) (h0 : 0 < n) (p : PickO led led1 rest)
    (k : ∀ av led', R av led' → Appd led' rest (K av loc)) : OpL a (fun vs => call (.ref f) vs) args loc led K := OpL_FSb F O (fun _ => H) hn h0 p k

/-- the frame of a callee -/
theorem OpL_FSe {f : Addr} {n : Nat} {args : List AV} {led1 rest L : Led} {V : AV} (F : FS f n args led1 fun v led => v = V ∧ led = L) (O : a.Ok) (H : a.hd = true) (hn : n ≤ a.room) (h0 : 0 < n) (p : PickO led led1 rest)
    (k : Appd L rest (K V loc)) : OpL a (fun vs => call (.ref f) vs) args loc led K := OpL_FS F O H hn h0 p fun _ _ h => by obtain ⟨rfl, rfl⟩ := h; exact k
theorem OpL_FSn {f : Addr} {n m : Nat} {args : List AV} {led1 rest L : Led} (F : FS f n args led1 fun v led => ∃ i : Nat, i < m ∧ v = .int (i : Nat) ∧ led = L) (O : a.Ok) (H : a.hd = true) (hn : n ≤ a.room) (h0 : 0 < n) (p : PickO led led1 rest)
    (k : ∀ i : Nat, i < m → Appd L rest (K (.int (i : Nat)) loc)) : OpL a (fun vs => call (.ref f) vs) args loc led K := OpL_FS F O H hn h0 p fun _ _ h => by obtain ⟨i, hi, rfl, rfl⟩ := h; exact k i hi
theorem hide_keep {h : Heap} {l : List Addr} {b : Addr} {o : Obj} (e : (hideAll h l).get? b = some o) : h.get? b = some o := of_hideAll l e

theorem evalArgs_any {M : Model} {A : Around} {E : Value → Shared → Prop} {s : Shared} {f : Value} {args : List (Bool × Sem Value)} {Q : Args → Shared → Prop} (hp : args.any (·.1) = false)
    (h : wpAny M A (spliced args) (fun vs s₁ => Q ⟨vs, []⟩ s₁) E s) : wpAny M A (evalArgs f true args []) Q E s := by
  cases args with
  | nil => exact fun Γ p hΓ => evalArgs_nil3 (h Γ p hΓ) Γ p hΓ
  | cons y ys =>
    obtain ⟨b, x⟩ := y
    cases b with
    | false => exact Calls.evalArgs_plain h
    | true => simp at hp

noncomputable abbrev cCall (a : Act sc) (f : Value) (K : KV) : KLi := fun xs loc led => OpL a (fun vs => call f vs) xs loc led K
/-- a call by a global name -/
theorem Ev_call {f : Addr} {x : Str} {np pos : Pos} {args : List Expr} (O : a.Ok) {gs : List (Str × Value)} (G : GOk sc gs) (g : GetG x (.ref f) gs) (hk : ∀ w : World, keepIn (KF w.params) (.ref f) = true)
    (hpl : (backTo pos (starEach args a.env)).any (·.1) = false) (h : EvL a args pos loc led (cCall a (.ref f) K)) :
    Ev a (eval (.Call (.Name x np) args [] pos) a.env) loc led K := by
  intro s R
  refine wpAny_Call_NameR (glob_at O R G g ?_)
  refine callWith_of (P := fun h => (KF a.w.params).In h) (by rw [hpl]; rfl) (keeps_K (hk a.w)) (evalArgs_any hpl ?_)
  refine wpAny_mono (h s R) (fun vs s₁ p => ?_) fun _ _ e => e
  obtain ⟨xs, l1, d1, k1, R1, t1, r1⟩ := p
  exact ⟨O.glob.2.keeps R1.keep, wpAny_mono (k1 s₁ vs R1 r1) (fun _ _ p => p.from t1) fun _ _ e => e⟩
/-- a call of a built-in by its name -/
theorem Ev_callB {id : String} {x : Str} {np pos : Pos} {args : List Expr} (O : a.Ok) {gs : List (Str × Value)} (G : GOk sc gs) (g : GetG x (.builtin id) gs)
    (hpl : (backTo pos (starEach args a.env)).any (·.1) = false) (h : EvL a args pos loc led (cCall a (.builtin id) K)) :
    Ev a (eval (.Call (.Name x np) args [] pos) a.env) loc led K := by
  intro s R
  refine wpAny_Call_NameR (glob_at O R G g ?_)
  refine Calls.callWith_builtin hpl (evalArgs_any hpl ?_)
  refine wpAny_mono (h s R) (fun vs s₁ p => ?_) fun _ _ e => e
  obtain ⟨xs, l1, d1, k1, R1, t1, r1⟩ := p
  exact wpAny_mono (k1 s₁ vs R1 r1) (fun _ _ p => p.from t1) fun _ _ e => e
end

/-! ## entering a def -/
theorem lookup_zip {α : Type} : ∀ {xs : List Str} {vs : List α} {x : Str} {v : α}, (xs.map id).Nodup → (x, v) ∈ xs.zip vs → (xs.zip vs).reverse.lookup x = some v := by
  intro xs vs x v hn hm
  have key : ∀ {l : List (Str × α)}, (l.map (·.1)).Nodup → (x, v) ∈ l → l.lookup x = some v := by
    intro l
    induction l with
    | nil => intro _ h; cases h
    | cons p r ih =>
      intro hn hm
      obtain ⟨y, u⟩ := p
      rcases List.mem_cons.mp hm with e | hm
      · cases e; simp
      · have hne : x ≠ y := by
          intro e
          exact (List.nodup_cons.mp hn).1 (List.mem_map.mpr ⟨_, hm, e⟩)
        rw [List.lookup_cons, beq_eq_false_iff_ne.mpr hne]
        exact ih (List.nodup_cons.mp hn).2 hm
  refine key ?_ (List.mem_reverse.mpr hm)
  rw [List.map_reverse]
  have : ((xs.zip vs).map (·.1)).Sublist xs := by
    clear hm hn key
    induction xs generalizing vs with
    | nil => simp
    | cons y ys ih =>
      cases vs with
      | nil => simp
      | cons u us => simpa using ih
  have hp : ((xs.zip vs).map (·.1)).Nodup := this.nodup (by simpa using hn)
  unfold List.Nodup
  rw [List.pairwise_reverse]
  exact List.Pairwise.imp (R := fun a b => a ≠ b) (fun h => Ne.symm h) hp

noncomputable def startLoc (xs : List Str) (args : List AV) (ys : List Str) : Loc := (xs.zip args).map (fun p => (p.1, some p.2)) ++ ys.map fun y => (y, none)

theorem zip_rel {h : Heap} : ∀ {xs : List Str} {args : List AV} {vs : List Value} {x : Str} {av : AV}, RelL h args vs → (x, av) ∈ xs.zip args → ∃ v, (x, v) ∈ xs.zip vs ∧ Rel h av v
  | [], _, _, _, _, _, hm => by simp at hm
  | y :: xs, [], _, _, _, _, hm => by simp at hm
  | y :: xs, b :: args, vs, x, av, r, hm => by
    unfold RelL at r
    obtain ⟨v, q, rfl, r1, r2⟩ := r
    rw [List.zip_cons_cons] at hm ⊢
    rcases List.mem_cons.mp hm with e | hm
    · cases e; exact ⟨v, .head _, r1⟩
    · obtain ⟨v', hm', r'⟩ := zip_rel r2 hm
      exact ⟨v', .tail _ hm', r'⟩

noncomputable abbrev cBack (R : AV → Led → Prop) : KSt := fun af _ led => match af with
  | .ret v => Has led (R v)
  | _ => Has led (R .none)
noncomputable abbrev cX (X : Led → Prop) : Loc → Led → Prop := fun _ led => Has led X

/-- what is known of an activation when its def is entered -/
structure Under {sc : Scope} (a : Act sc) (w : World) (mg mb : Str → Option Value) (A : Around) (s : Shared) (led : Led) (XX : Flow → Shared → Prop) (L : Addr) : Prop where
  w : a.w = w
  mg : a.mg = mg
  mb : a.mb = mb
  A : a.A = A.deeper a.env
  h₀ : a.h₀ = hideAll s.heap (led.map (·.1))
  gens : a.gens = s.gens
  os : a.os = s.os
  X : a.X = XX
  isL : a.L = L
  fr : a.fr = some L
theorem FS.core {b : Bool} {sc' : Scope} {n : Nat} {led cells : Led} {R : AV → Led → Prop} {X : Led → Prop} {body : List Stmt} {loc₀ : Loc} {w : World} {mg mb : Str → Option Value} {A : Around} {E : Value → Shared → Prop} {s : Shared} {g h₁ : Heap} {tk : Nat} {m : Str → Option Value}
    {qual : Str} {L f : Addr} {cl : List (Str × Addr)} {cd : Value} (hk : sc'.kind = .function) (hg : Glob w mg mb g) (hgk : ∀ b o, g.get? b = some o → s.heap.get? b = some o)
    (hled : ∀ p ∈ led, ObjIs w s.heap p.1 p.2 ∧ g.get? p.1 = none ∧ mainGlobals < p.1) (hnod : (led.map (·.1)).Nodup) (hroom : Room b A (n + 1)) (hn : 0 < n) (hfr : FrOk A (fun L => Plain s.heap L ∧ L ∉ led.map (·.1)))
    (hE : ∀ l e s', A.frames = some l → XPost w l s led X e s' → E e s')
    (hL : s.heap.get? L = none) (keep : ∀ b o, s.heap.get? b = some o → h₁.get? b = some o) (hns : h₁.Ns L m) (hloc : LocOk h₁ m loc₀) (hkeys : (loc₀.map (·.1)).Nodup)
    (hkinds : ∀ x ∈ loc₀.map (·.1), sc'.names.lookup x = some .local ∧ (x == ("__debug__" : Str)) = false)
    (hc : ∀ p ∈ cells, ObjIs w h₁ p.1 p.2 ∧ s.heap.get? p.1 = none ∧ p.1 ≠ L ∧ mainGlobals < p.1) (hcn : (cells.map (·.1)).Nodup)
    (XX : Flow → Shared → Prop) (P : Value → Shared → Prop) (hXX : ∀ f s', XX f s' → ∃ v, f = .ret v ∧ P v s') (hP : ∀ v s', FPost w s led R v s' → P v s')
    (hb : ∀ a : Act sc', a.Ok → a.room = n → a.hd = b → a.cl = cl → RaiseOk a (cX X) → Under a w mg mb A s led XX L → Ex a (execs body a.env) loc₀ (cells ++ led) (cBack R)) :
    let env : Env := { scope := sc', locals := L, globals := mainGlobals, cells := cl, qual := qual, func := some f, code := cd, frame := some L, builtins := builtinsNs }
    wpAny (model PW w) (A.deeper env) (execs body env) (fun fl s' => P (match fl with | .ret v => v | _ => .none) s')
      (fun e s' => wpAny (model PW w) (A.deeper env) (leaving env e) (fun _ s'' => E e s'') (fun e' s'' => E e' s'') s') { s with heap := h₁, toks := tk } := by
  intro env
  let a : Act sc' := { w, A := A.deeper env, E := fun e s' => wpAny (model PW w) (A.deeper env) (leaving env e) (fun _ s'' => E e s'') (fun e' s'' => E e' s'') s', qual, L, cl, fn := some f, cd, fr := some L, h₀ := hideAll s.heap (led.map (·.1)), gens := s.gens, os := s.os, mg, mb, room := n, hd := b, X := XX }
  have henv : a.env = env := rfl
  have hgh : ∀ b o, g.get? b = some o → (hideAll s.heap (led.map (·.1))).get? b = some o := fun b o e => hideAll_get _ (hgk b o e) fun hm => by
    obtain ⟨p, hp, rfl⟩ := List.mem_map.mp hm
    exact gone e (hled p hp).2.1
  obtain ⟨lo, hlo, hfrs⟩ := id hfr
  have hal : a.A.frames = some (env :: lo) := Around.frames_deeper hlo
  have hpl : ∀ L', (Plain s.heap L' ∧ L' ∉ led.map (·.1)) → Plain (hideAll s.heap (led.map (·.1))) L' := fun L' ⟨⟨o, e, r⟩, hnm⟩ => ⟨o, hideAll_get _ e hnm, r⟩
  have O : a.Ok := ⟨hk, ⟨env :: lo, hal, fun env' hm => by
      rcases List.mem_cons.mp hm with rfl | hm
      · exact ⟨by show sc'.kind ≠ .module; rw [hk]; decide, L, rfl, .inl rfl⟩
      · obtain ⟨k, L', f', p⟩ := hfrs env' hm
        exact ⟨k, L', f', .inr (hpl _ p)⟩⟩, hg.keeps hgh, ⟨hroom.1, by
      show (A.depth + 1) + n < recursionLimit
      have := hroom.2.1; omega, by
      show (A.units + 3) + 10 * n < cLine
      have := hroom.2.2.1; omega, hn⟩, fun f s' h => (hXX f s' h).imp fun _ h => h.1⟩
  have tk₀ : TK s.heap h₁ := TK.keeps keep
  have apart : ∀ p ∈ cells ++ led, p.1 ≠ a.L ∧ a.h₀.get? p.1 = none ∧ mainGlobals < p.1 := fun p hp => by
    rcases List.mem_append.mp hp with hp | hp
    · refine ⟨(hc p hp).2.2.1, ?_, (hc p hp).2.2.2⟩
      cases q : a.h₀.get? p.1 with
      | none => rfl
      | some o =>
        have := of_hideAll _ q
        exact gone this (hc p hp).2.1
    · refine ⟨fun e => ?_, hideAll_none _ (List.mem_map_of_mem hp), (hled p hp).2.2⟩
      obtain ⟨o, e', _⟩ := (hled p hp).1.there
      rw [e, hL] at e'; cases e'
  have fresh : a.h₀.get? a.L = none := by
    show (hideAll s.heap (led.map (·.1))).get? L = none
    cases q : (hideAll s.heap (led.map (·.1))).get? L with
    | none => rfl
    | some o =>
      have := of_hideAll _ q
      rw [hL] at this; cases this
  have R0 : Rep a loc₀ (cells ++ led) { s with heap := h₁, toks := tk } := by
    refine ⟨rfl, rfl, fun b o e => keep b o (of_hideAll _ e), ⟨_, hns, hloc⟩, hkeys, hkinds, fun p hp => ?_, apart, ?_, fresh⟩
    · rcases List.mem_append.mp hp with hp | hp
      · exact (hc p hp).1
      · exact (hled p hp).1.keep tk₀ (fun o e => keep _ o e)
    · rw [List.map_append, List.nodup_append]
      refine ⟨hcn, hnod, fun x hx y hy e => ?_⟩
      subst e
      obtain ⟨p, hp, rfl⟩ := List.mem_map.mp hx
      obtain ⟨q, hq, e⟩ := List.mem_map.mp hy
      obtain ⟨o', e', _⟩ := (hled q hq).1.there
      rw [e, (hc p hp).2.1] at e'; cases e'
  have back : ∀ {p : Addr × AO}, a.h₀.get? p.1 = none → p.1 ∈ led.map (·.1) ∨ s.heap.get? p.1 = none := fun {p} e => by
    by_cases hm : p.1 ∈ led.map (·.1)
    · exact .inl hm
    · refine .inr ?_
      cases q : s.heap.get? p.1 with
      | none => rfl
      | some o =>
        rw [show a.h₀ = hideAll s.heap (led.map (·.1)) from rfl, hideAll_get _ q hm] at e
        cases e
  have Z : RaiseOk a (cX X) := by
    refine ⟨⟨lo, hal⟩, rfl, ?_⟩
    intro loc led1 l base e a0 s' T hX
    obtain ⟨led', rest, hp, hx⟩ := hX
    have hT := T.fr
    rw [hal] at hT; cases hT
    have hin : ∀ p ∈ led', p ∈ led1 := fun p hm => hp.perm.symm.subset (List.mem_append_left _ hm)
    have hnd : (led'.map (·.1)).Nodup := by
      have := (hp.perm.map (·.1)).nodup_iff.mp T.nodup
      rw [List.map_append, List.nodup_append] at this; exact this.1
    have fin : ∀ s'' : Shared, s''.gens = s'.gens → s''.os = s'.os → s'.heap.UpToSlots s''.heap → Heap.FlyingW base lo e (.ref 58) a0 s''.heap → E (.ref e) s'' := by
      intro s'' e1 e2 hup hfl
      refine hE lo _ s'' hlo ⟨e, base, a0, led', rfl, hx, fun p hm => ⟨T.objs p (hin p hm), (T.apart p (hin p hm)).2.2, back (T.apart p (hin p hm)).2.1⟩, hnd, fun b o hbl hbf e => ?_, hfl, fun b hbf o e => ?_, e1.trans T.gens, e2.trans T.os⟩
      · refine T.base b o (hideAll_get _ e hbl) fun hm => ?_
        rcases List.mem_cons.mp (show b ∈ L :: frs lo from hm) with rfl | hm
        · rw [hL] at e; cases e
        · exact hbf hm
      · have hpb := frs_mem hfr hlo hbf
        obtain ⟨o', e', hnf, hns⟩ := hpb.1
        rw [e] at e'; cases e'
        obtain ⟨sl, es⟩ := T.slots b (show b ∈ L :: frs lo from .tail _ hbf) o (hideAll_get _ e hpb.2)
        obtain ⟨sl', es'⟩ := hup b _ es hnf
        exact ⟨sl', es'⟩
    rcases T.fly with ⟨n1, n2, n3, oe, vs, n4, n5, n6, n7, n8⟩ | hh | hfl
    · refine wpAny_leaving_firstW (a0 := a0) hal n3 rfl n4 n1 n2 n6 n8 n7 fun h' hLf => ?_
      obtain ⟨k1, ⟨_, _, k2⟩, k3, k4⟩ := hLf
      exact fin { s' with heap := h' } rfl rfl k4 ⟨k1, n2, k2, n5 ▸ k3⟩
    · refine wpAny_bind (wpAny_noteFrame_againW (L := L) rfl hh.2.2.2 ?_)
      refine wpAny_landsW hh fun h' hfl hup => ?_
      obtain ⟨k1, k2, ⟨_, _, k3⟩, k4⟩ := hfl
      exact fin { s' with heap := h' } rfl rfl hup ⟨k1, k2, k3, k4⟩
    · exact wpAny_leaves_onW hal rfl hfl fun h' hfl hup => fin { s' with heap := h' } rfl rfl hup hfl
  refine wpAny_mono (hb a O rfl rfl rfl Z ⟨rfl, rfl, rfl, rfl, rfl, rfl, rfl, rfl, rfl, rfl⟩ _ R0) (fun fl s' p => ?_) fun _ _ e => e
  rcases p with ⟨af, l1, d1, k1, R1, t1, r1⟩ | hx
  rotate_left
  · obtain ⟨v, rfl, h⟩ := hXX _ _ hx
    exact h
  have fin : ∀ {av : AV} {v : Value}, Has d1 (R av) → Rel s'.heap av v → P v s' := fun {av v} k r =>
    let ⟨d2, k2, R2⟩ := R1.has k
    hP _ _ ⟨av, d2, k2, r, fun p hp => ⟨R2.objs p hp, (R2.apart p hp).2.2⟩, R2.nodup, fun p hp => back (R2.apart p hp).2.1,
      fun b o hb' e => R2.keep b o (hideAll_get _ e hb'), R2.gens, R2.os⟩
  cases af with
  | next => cases r1; exact fin k1 rfl
  | brk => cases r1; exact fin k1 rfl
  | cont => cases r1; exact fin k1 rfl
  | ret x => obtain ⟨v, rfl, r⟩ := r1; exact fin k1 r

theorem start_keys {xs : List Str} {args : List AV} {ys : List Str} (hl : args.length = xs.length) : (startLoc xs args ys).map (·.1) = xs ++ ys := by
  unfold startLoc
  rw [List.map_append, List.map_map, List.map_map]
  have e1 : (xs.zip args).map ((fun x => x.1) ∘ fun p => (p.1, some p.2)) = xs := by
    show (xs.zip args).map (fun p => p.1) = xs
    rw [List.map_fst_zip (by omega)]
  have e2 : ys.map ((fun x => x.1) ∘ fun y => (y, (none : Option AV))) = ys := by
    show ys.map (fun y => y) = ys
    simp
  rw [e1, e2]
theorem start_loc {h h₁ : Heap} {xs : List Str} {args : List AV} {ys : List Str} {vs : List Value} {m : Str → Option Value} (hnx : xs.Nodup) (hr : RelL h args vs) (tk : TK h h₁) (hm : ∀ x v, (x, v) ∈ xs.zip vs → m x = some v) :
    LocOk h₁ m (startLoc xs args ys) := by
  intro x av hx
  unfold startLoc at hx
  rcases List.mem_append.mp hx with hx | hx
  · obtain ⟨p, hp, e⟩ := List.mem_map.mp hx
    cases e
    obtain ⟨v, hv, rv⟩ := zip_rel hr hp
    exact ⟨v, hm _ _ hv, rv.mono tk⟩
  · obtain ⟨y, _, e⟩ := List.mem_map.mp hx
    cases e

theorem FCX.intro {b : Bool} {f : Addr} {n : Nat} {mk : List Value → Args} {args : List AV} {led : Led} {R : AV → Led → Prop} {X : Led → Prop} {name qual : Str} {params : Arguments} {body : List Stmt} {sc' : Scope} {dV kV doc pm cdv ct oc : Value} {an od : Option Addr} {osl : Array (Option Value)} (sc : Scope) (xs ys : List Str) (args' : List AV) (loc₀ : Loc)
    (ho : ∀ P, (KF P).lookup f = some ⟨oc, od, .func (fnOf name qual params body sc' dV kV doc pm an cdv ct), osl⟩) (hcd : ∀ P, codeIn (KF P) cdv qual = true) (hs : sc' = sc)
    (hl : args'.length = xs.length) (hbind : ∀ {w : World} {s : Shared} {vs : List Value}, (KF w.params).In s.heap → RelL s.heap args vs → ∃ vs', RelL s.heap args' vs' ∧ BindsTo s (fnOf name qual params body sc' dV kV doc pm an cdv ct) (mk vs) (xs.zip vs'))
    (hloc : (xs ++ ys).all (fun x => decide (sc.names.lookup x = some .local) && !(x == ("__debug__" : Str))) = true) (hnd : (xs ++ ys).Nodup)
    (hco : sc.isCoroutine = false) (hgen : sc.isGenerator = false) (hk : sc.kind = .function) (hcell : sc.names.all (fun x => x.2 != .cell) = true)
    (hl₀ : startLoc xs args' ys = loc₀)
    (hb : ∀ a : Act sc, a.Ok → a.room = n → a.hd = b → RaiseOk a (cX X) → Ex a (execs body a.env) loc₀ led (cBack R)) (hn : 0 < n) : FCXb b f (n + 1) mk args led R X := by
  subst hs
  subst hl₀
  intro w mg mb A E s vs g hg hgk hled hnod hroom hfr hr hE
  have Xk : (KF w.params).In s.heap := hg.2.keeps hgk
  obtain ⟨vs', hr, hbnd⟩ := hbind Xk hr
  have hlen : vs'.length = xs.length := hr.length.trans hl
  have hkn : ∀ x ∈ xs ++ ys, sc'.names.lookup x = some .local ∧ (x == ("__debug__" : Str)) = false := fun x hx => by
    have := List.all_eq_true.mp hloc x hx
    simp only [Bool.and_eq_true, decide_eq_true_eq, Bool.not_eq_true'] at this
    exact this
  have hnx : xs.Nodup := (List.nodup_append.mp hnd).1
  refine codeAny_call_def (fd := fnOf name qual params body sc' dV kV doc pm an cdv ct) (body := body) (binds := xs.zip vs') (by have := hroom.2.1; omega) (Xk _ _ (ho _)) rfl (hg.1.nolimit.keeps hgk) (codeRec_of Xk (hcd _)) rfl hbnd ?_ ?_ (fun h₀ hns hk₀ => ?_) hco hgen hk
  · intro x hx
    have := List.all_eq_true.mp hcell x hx
    simpa using this
  · intro y hy
    have hm : y.1 ∈ xs := (List.of_mem_zip (a := y.1) (b := y.2) hy).1
    exact (hkn _ (List.mem_append_left _ hm)).1
  have hLn : s.heap.get? s.heap.objs.size = none := by
    cases q : s.heap.get? s.heap.objs.size with
    | none => rfl
    | some o => exact absurd (Heap.lt_size q) (Nat.lt_irrefl _)
  exact FS.core (cells := []) hk hg hgk hled hnod hroom hn hfr hE hLn hk₀ hns (start_loc hnx hr (TK.keeps hk₀) fun x v hv => lookup_zip (by simpa using hnx) hv) (by rw [start_keys hl]; exact hnd) (by rw [start_keys hl]; exact hkn)
    (fun p hp => nomatch hp) List.nodup_nil (fun _ _ => False) _ (fun _ _ h => h.elim) (fun _ _ h => h) fun a O hr hh _ Z _ => hb a O hr hh Z

theorem FSX.intro {b : Bool} {f : Addr} {n : Nat} {args : List AV} {led : Led} {R : AV → Led → Prop} {X : Led → Prop} {name qual : Str} {params : Arguments} {body : List Stmt} {sc' : Scope} {dV kV doc pm cdv ct oc : Value} {an od : Option Addr} {osl : Array (Option Value)} (sc : Scope) (xs ys : List Str) (loc₀ : Loc)
    (ho : ∀ P, (KF P).lookup f = some ⟨oc, od, .func (fnOf name qual params body sc' dV kV doc pm an cdv ct), osl⟩) (hcd : ∀ P, codeIn (KF P) cdv qual = true) (hs : sc' = sc)
    (hl : args.length = xs.length) (hbind : ∀ vs : List Value, vs.length = xs.length → bindArgs (fnOf name qual params body sc' dV kV doc pm an cdv ct) ⟨vs, []⟩ = pure (xs.zip vs))
    (hloc : (xs ++ ys).all (fun x => decide (sc.names.lookup x = some .local) && !(x == ("__debug__" : Str))) = true) (hnd : (xs ++ ys).Nodup)
    (hco : sc.isCoroutine = false) (hgen : sc.isGenerator = false) (hk : sc.kind = .function) (hcell : sc.names.all (fun x => x.2 != .cell) = true)
    (hl₀ : startLoc xs args ys = loc₀)
    (hb : ∀ a : Act sc, a.Ok → a.room = n → a.hd = b → RaiseOk a (cX X) → Ex a (execs body a.env) loc₀ led (cBack R)) (hn : 0 < n) : FSXb b f (n + 1) args led R X :=
  FSX.of_code (FCX.intro sc xs ys args loc₀ ho hcd hs hl (fun {_ _ vs} _ hr => ⟨vs, hr, BindsTo.of_eq (hbind vs (hr.length.trans hl))⟩) hloc hnd hco hgen hk hcell hl₀ hb hn)

theorem FS.intro {f : Addr} {n : Nat} {args : List AV} {led : Led} {R : AV → Led → Prop} {name qual : Str} {params : Arguments} {body : List Stmt} {sc' : Scope} {dV kV doc pm cdv ct oc : Value} {an od : Option Addr} {osl : Array (Option Value)} (sc : Scope) (xs ys : List Str) (loc₀ : Loc)
    (ho : ∀ P, (KF P).lookup f = some ⟨oc, od, .func (fnOf name qual params body sc' dV kV doc pm an cdv ct), osl⟩) (hcd : ∀ P, codeIn (KF P) cdv qual = true) (hs : sc' = sc)
    (hl : args.length = xs.length) (hbind : ∀ vs : List Value, vs.length = xs.length → bindArgs (fnOf name qual params body sc' dV kV doc pm an cdv ct) ⟨vs, []⟩ = pure (xs.zip vs))
    (hloc : (xs ++ ys).all (fun x => decide (sc.names.lookup x = some .local) && !(x == ("__debug__" : Str))) = true) (hnd : (xs ++ ys).Nodup)
    (hco : sc.isCoroutine = false) (hgen : sc.isGenerator = false) (hk : sc.kind = .function) (hcell : sc.names.all (fun x => x.2 != .cell) = true)
    (hl₀ : startLoc xs args ys = loc₀)
    (hb : ∀ a : Act sc, a.Ok → a.room = n → a.hd = true → Ex a (execs body a.env) loc₀ led (cBack R)) (hn : 0 < n) : FS f (n + 1) args led R :=
  FSX.intro sc xs ys loc₀ ho hcd hs hl hbind hloc hnd hco hgen hk hcell hl₀ (fun a O hr hh _ => hb a O hr hh) hn

/-! ### defs with cells -/
noncomputable def initOf (pv : List (Str × AV)) (x : Str) : Option AV := pv.lookup x
theorem kindL {kindOf : Str → Option NameKind} {x : Str} : ∀ {b : List (Str × Value)} {m : Str → Option Value}, (x ∉ b.map (·.1)) → bindL kindOf b m x = m x
  | [], _, _ => rfl
  | (n, v) :: r, m, h => by
    unfold bindL
    simp only [List.map_cons, List.mem_cons, not_or] at h
    rw [kindL h.2]
    split
    · simp [h.1]
    · rfl
theorem bindL_at {kindOf : Str → Option NameKind} {x : Str} {v : Value} (hk : kindOf x = some .local) : ∀ {b : List (Str × Value)} {m : Str → Option Value}, (b.map (·.1)).Nodup → (x, v) ∈ b → bindL kindOf b m x = some v
  | (n, u) :: r, m, hn, hm => by
    unfold bindL
    rcases List.mem_cons.mp hm with e | hm
    · cases e
      rw [kindL (List.nodup_cons.mp hn).1, if_pos hk]
      simp
    · exact bindL_at hk (List.nodup_cons.mp hn).2 hm
theorem kindC {kindOf : Str → Option NameKind} {x : Str} : ∀ {b : List (Str × Value)} {m : Str → Option Value}, (x ∉ b.map (·.1)) → bindC kindOf b m x = m x
  | [], _, _ => rfl
  | (n, v) :: r, m, h => by
    unfold bindC
    simp only [List.map_cons, List.mem_cons, not_or] at h
    rw [kindC h.2]
    split
    · rfl
    · simp [h.1]
theorem bindC_at {kindOf : Str → Option NameKind} {x : Str} {v : Value} (hk : kindOf x ≠ some .local) : ∀ {b : List (Str × Value)} {m : Str → Option Value}, (b.map (·.1)).Nodup → (x, v) ∈ b → bindC kindOf b m x = some v
  | (n, u) :: r, m, hn, hm => by
    unfold bindC
    rcases List.mem_cons.mp hm with e | hm
    · cases e
      rw [kindC (List.nodup_cons.mp hn).1, if_neg hk]
      simp
    · exact bindC_at hk (List.nodup_cons.mp hn).2 hm
theorem cells_addr : ∀ (names : List (Str × NameKind)) (n : Nat) (acc : List (Str × Addr)) (p : Str × Addr), p ∈ cellsFrom n names acc → p ∈ acc ∨ n ≤ p.2
  | [], _, _, _, h => .inl h
  | (x, k) :: r, n, acc, p, h => by
    unfold cellsFrom at h
    split at h
    · rcases cells_addr r _ _ p h with h | h
      · rcases List.mem_cons.mp h with rfl | h
        · exact .inr (Nat.le_refl _)
        · exact .inl h
      · exact .inr (Nat.le_of_succ_le h)
    · exact cells_addr r n acc p h

/-- the cells of a def, with what they hold at first -/
noncomputable def cellsAt (ad : Str → Addr) (cs : List (Str × Option AV)) : Led := cs.map fun p => (ad p.1, .cell p.2)

theorem FSX.introCG {b : Bool} {f : Addr} {n : Nat} {args : List AV} {led : Led} {R : AV → Led → Prop} {X : Led → Prop} {name qual : Str} {params : Arguments} {body : List Stmt} {sc' : Scope} {dV kV doc pm cdv ct oc : Value} {an od : Option Addr} {osl : Array (Option Value)} (sc : Scope) (xs : List Str) (loc₀ : Loc) (cs : List (Str × Option AV)) (cn : List Str) (hce : cs.map (·.1) = cn)
    (ho : ∀ P, (KF P).lookup f = some ⟨oc, od, .func (fnOf name qual params body sc' dV kV doc pm an cdv ct), osl⟩) (hcd : ∀ P, codeIn (KF P) cdv qual = true) (hs : sc' = sc)
    (hl : args.length = xs.length) (hnx : xs.Nodup) (hbind : ∀ vs : List Value, vs.length = xs.length → bindArgs (fnOf name qual params body sc' dV kV doc pm an cdv ct) ⟨vs, []⟩ = pure (xs.zip vs))
    (hxs : xs.all (fun x => decide (sc.names.lookup x = some .local) || (decide (sc.names.lookup x = some .cell) && ((cellsFrom 0 sc.names []).lookup x).isSome)) = true)
    (hloc : (loc₀.map (·.1)).all (fun x => decide (sc.names.lookup x = some .local) && !(x == ("__debug__" : Str))) = true) (hnd : (loc₀.map (·.1)).Nodup)
    (hcs : cn.all (fun x => decide (sc.names.lookup x = some .cell) && ((cellsFrom 0 sc.names []).lookup x).isSome) = true) (hcn : cn.Nodup)
    (hco : sc.isCoroutine = false) (hgen : sc.isGenerator = false) (hk : sc.kind = .function)
    (hl₀ : ∀ x av, (x, some av) ∈ loc₀ → (x, av) ∈ xs.zip args) (hc₀ : ∀ x av, (x, some av) ∈ cs → (x, av) ∈ xs.zip args)
    (Extra : Act sc → Prop)
    (hb : ∀ (a : Act sc) (ad : Str → Addr), a.Ok → a.room = n → a.hd = b → (∀ x ∈ cn, a.cl.lookup x = some (ad x)) → RaiseOk a (cX X) → Extra a → Ex a (execs body a.env) loc₀ (cellsAt ad cs ++ led) (cBack R)) (hn : 0 < n)
    {w : World} {mg mb : Str → Option Value} {A : Around} {E : Value → Shared → Prop} {s : Shared} {vs : List Value} {g : Heap} (XX : Flow → Shared → Prop) (P : Value → Shared → Prop) (hXX : ∀ f s', XX f s' → ∃ v, f = .ret v ∧ P v s') (hP : ∀ v s', FPost w s led R v s' → P v s')
    (hEx : ∀ (a : Act sc) (L : Addr), s.heap.get? L = none → Under a w mg mb A s led XX L → Extra a)
    (hg : Glob w mg mb g) (hgk : ∀ b o, g.get? b = some o → s.heap.get? b = some o)
    (hled : ∀ p ∈ led, ObjIs w s.heap p.1 p.2 ∧ g.get? p.1 = none ∧ mainGlobals < p.1) (hnod : (led.map (·.1)).Nodup) (hroom : Room b A (n + 1)) (hfr : FrOk A (fun L => Plain s.heap L ∧ L ∉ led.map (·.1))) (hr : RelL s.heap args vs)
    (hE : ∀ l e s', A.frames = some l → XPost w l s led X e s' → E e s') : wpAny (model PW w) A (call (.ref f) vs) P E s := by
  subst hs hce
  have hlen : vs.length = xs.length := hr.length.trans hl
  have Xk : (KF w.params).In s.heap := hg.2.keeps hgk
  have hLn : ∀ b, s.heap.objs.size ≤ b → s.heap.get? b = none := fun b hb => by
    cases q : s.heap.get? b with
    | none => rfl
    | some o => exact absurd (Heap.lt_size q) (Nat.not_lt.mpr hb)
  have hcl : ∀ x, ((cellsFrom 0 sc'.names []).lookup x).isSome = true → ∃ c, (cellsFrom (s.heap.objs.size + 1) sc'.names []).lookup x = some c := by
    intro x hx
    have e := cellsFrom_names sc'.names 0 (s.heap.objs.size + 1) [] [] rfl
    have key : ∀ {l l' : List (Str × Addr)}, l.map (·.1) = l'.map (·.1) → (l.lookup x).isSome = (l'.lookup x).isSome := by
      intro l
      induction l with
      | nil => intro l' e; cases l' with
        | nil => rfl
        | cons q r => cases e
      | cons q r ih =>
        intro l' e
        cases l' with
        | nil => cases e
        | cons q' r' =>
          obtain ⟨y, u⟩ := q
          obtain ⟨y', u'⟩ := q'
          simp only [List.map_cons, List.cons.injEq] at e
          obtain ⟨rfl, e⟩ := e
          rw [List.lookup_cons, List.lookup_cons]
          cases x == y
          · exact ih e
          · rfl
    have := key e
    rw [hx] at this
    exact Option.isSome_iff_exists.mp this.symm
  have hkn : ∀ x ∈ loc₀.map (·.1), sc'.names.lookup x = some .local ∧ (x == ("__debug__" : Str)) = false := fun x hx => by
    have := List.all_eq_true.mp hloc x hx
    simp only [Bool.and_eq_true, decide_eq_true_eq, Bool.not_eq_true'] at this
    exact this
  have hck : ∀ x ∈ cs.map (·.1), sc'.names.lookup x = some .cell ∧ ((cellsFrom 0 sc'.names []).lookup x).isSome = true := fun x hx => by
    have := List.all_eq_true.mp hcs x hx
    simpa only [Bool.and_eq_true, decide_eq_true_eq] using this
  have hzn : ((xs.zip vs).map (·.1)).Nodup := by
    rw [List.map_fst_zip (by omega)]; exact hnx
  refine wpAny_call (codeAny_call_cells (fd := fnOf name qual params body sc' dV kV doc pm an cdv ct) (body := body) (binds := xs.zip vs) (by have := hroom.2.1; omega) (Xk _ _ (ho _)) rfl (hg.1.nolimit.keeps hgk) (codeRec_of Xk (hcd _)) rfl (hbind vs hlen) rfl ?_ (fun s₁ I => ?_) hco hgen hk)
  · intro y hy
    have hm : y.1 ∈ xs := (List.of_mem_zip (a := y.1) (b := y.2) hy).1
    have := List.all_eq_true.mp hxs _ hm
    simp only [Bool.or_eq_true, Bool.and_eq_true, decide_eq_true_eq] at this
    rcases this with h | ⟨h, h'⟩
    · exact .inl h
    · obtain ⟨c, e⟩ := hcl _ h'
      exact .inr ⟨h, by
        show ((cellsFrom (s.heap.objs.size + 1) sc'.names []).lookup y.1).isSome = true
        rw [e]; rfl⟩
  obtain ⟨h₁, tk, rfl⟩ := I.toInCall.same
  have hk₀ := I.toInCall.keep
  have tk0 : TK s.heap h₁ := TK.keeps hk₀
  have hns : h₁.Ns s.heap.objs.size _ := I.toInCall.ns
  let cl := cellsFrom (s.heap.objs.size + 1) sc'.names []
  let ad : Str → Addr := fun x => (cl.lookup x).getD 0
  have had : ∀ x ∈ cs.map (·.1), cl.lookup x = some (ad x) := fun x hx => by
    obtain ⟨c, e⟩ := hcl x (hck x hx).2
    show _ = some ((cl.lookup x).getD 0)
    rw [show cl.lookup x = some c from e]; rfl
  refine FS.core (cells := cellsAt ad cs) (loc₀ := loc₀) hk hg hgk hled hnod hroom hn hfr hE (hLn _ (Nat.le_refl _)) hk₀ hns (fun x av hx => ?_) hnd hkn (fun p hp => ?_) ?_ XX P hXX hP fun a O hr hh hcl Z U => hb a ad O hr hh (hcl ▸ had) Z (hEx a _ (hLn _ (Nat.le_refl _)) U)
  · obtain ⟨v, hv, rv⟩ := zip_rel hr (hl₀ x av hx)
    exact ⟨v, bindL_at (show sc'.names.lookup x = some .local from (hkn x (List.mem_map_of_mem hx)).1) hzn hv, rv.mono tk0⟩
  · obtain ⟨q, hq, rfl⟩ := List.mem_map.mp hp
    obtain ⟨x, o⟩ := q
    have hxc : x ∈ cs.map (·.1) := List.mem_map_of_mem hq
    have hic := I.cell x _ (had x hxc)
    have hge : s.heap.objs.size + 1 ≤ ad x := by
      rcases cells_addr _ _ _ _ (mem_of_lookup (had x hxc)) with h | h
      · cases h
      · exact h
    have hfrs : s.heap.get? (ad x) = none := hLn _ (Nat.le_of_succ_le hge)
    refine ⟨?_, hfrs, fun e => ?_, ?_⟩
    · cases o with
      | none => exact ⟨_, hic⟩
      | some av =>
        obtain ⟨v, hv, rv⟩ := zip_rel hr (hc₀ x av hq)
        refine ⟨v, ?_, rv.mono tk0⟩
        have : bindC (callEnvC (fnOf name qual params body sc' dV kV doc pm an cdv ct) s.heap.objs.size f).kindOf (xs.zip vs) (fun _ => none) x = some v :=
          bindC_at (fun e => by
            have e' : sc'.names.lookup x = some .local := e
            rw [(hck x hxc).1] at e'; cases e') hzn hv
        rw [this] at hic
        exact hic
    · have e' : ad x = s.heap.objs.size := e
      rw [e'] at hge; exact Nat.not_succ_le_self _ hge
    · have := (hg.1.g.keeps hgk).lt
      show mainGlobals < ad x
      exact Nat.lt_of_lt_of_le this (Nat.le_of_succ_le hge)
  · unfold cellsAt
    rw [List.map_map]
    show (cs.map fun p => ad p.1).Nodup
    have key : ∀ {l : List (Str × Option AV)}, (∀ q ∈ l, q.1 ∈ cs.map (·.1)) → (l.map (·.1)).Nodup → (l.map fun p => ad p.1).Nodup := by
      intro l
      induction l with
      | nil => intro _ _; exact List.nodup_nil
      | cons q r ih =>
        intro hm hn
        rw [List.map_cons] at hn ⊢
        obtain ⟨h1, h2⟩ := List.nodup_cons.mp hn
        refine List.nodup_cons.mpr ⟨fun hx => ?_, ih (fun q hq => hm q (.tail _ hq)) h2⟩
        obtain ⟨q', hq', e⟩ := List.mem_map.mp hx
        have e1 := mem_of_lookup (had _ (hm q (.head _)))
        have e2 := mem_of_lookup (had _ (hm q' (.tail _ hq')))
        rw [e] at e2
        have := name_of_addr I.apart e2 e1
        exact h1 (List.mem_map.mpr ⟨q', hq', this⟩)
    exact key (fun q hq => List.mem_map_of_mem hq) hcn
theorem FSX.introC {b : Bool} {f : Addr} {n : Nat} {args : List AV} {led : Led} {R : AV → Led → Prop} {X : Led → Prop} {name qual : Str} {params : Arguments} {body : List Stmt} {sc' : Scope} {dV kV doc pm cdv ct oc : Value} {an od : Option Addr} {osl : Array (Option Value)} (sc : Scope) (xs : List Str) (loc₀ : Loc) (cs : List (Str × Option AV)) (cn : List Str) (hce : cs.map (·.1) = cn)
    (ho : ∀ P, (KF P).lookup f = some ⟨oc, od, .func (fnOf name qual params body sc' dV kV doc pm an cdv ct), osl⟩) (hcd : ∀ P, codeIn (KF P) cdv qual = true) (hs : sc' = sc)
    (hl : args.length = xs.length) (hnx : xs.Nodup) (hbind : ∀ vs : List Value, vs.length = xs.length → bindArgs (fnOf name qual params body sc' dV kV doc pm an cdv ct) ⟨vs, []⟩ = pure (xs.zip vs))
    (hxs : xs.all (fun x => decide (sc.names.lookup x = some .local) || (decide (sc.names.lookup x = some .cell) && ((cellsFrom 0 sc.names []).lookup x).isSome)) = true)
    (hloc : (loc₀.map (·.1)).all (fun x => decide (sc.names.lookup x = some .local) && !(x == ("__debug__" : Str))) = true) (hnd : (loc₀.map (·.1)).Nodup)
    (hcs : cn.all (fun x => decide (sc.names.lookup x = some .cell) && ((cellsFrom 0 sc.names []).lookup x).isSome) = true) (hcn : cn.Nodup)
    (hco : sc.isCoroutine = false) (hgen : sc.isGenerator = false) (hk : sc.kind = .function)
    (hl₀ : ∀ x av, (x, some av) ∈ loc₀ → (x, av) ∈ xs.zip args) (hc₀ : ∀ x av, (x, some av) ∈ cs → (x, av) ∈ xs.zip args)
    (hb : ∀ (a : Act sc) (ad : Str → Addr), a.Ok → a.room = n → a.hd = b → (∀ x ∈ cn, a.cl.lookup x = some (ad x)) → RaiseOk a (cX X) → Ex a (execs body a.env) loc₀ (cellsAt ad cs ++ led) (cBack R)) (hn : 0 < n) : FSXb b f (n + 1) args led R X := by
  intro w mg mb A E s vs g hg hgk hled hnod hroom hfr hr hE
  exact FSX.introCG sc xs loc₀ cs cn hce ho hcd hs hl hnx hbind hxs hloc hnd hcs hcn hco hgen hk hl₀ hc₀ (fun _ => True) (fun a ad O hr hh hcl Z _ => hb a ad O hr hh hcl Z) hn (fun _ _ => False) _ (fun _ _ h => h.elim) (fun _ _ h => h) (fun _ _ _ _ => trivial) hg hgk hled hnod hroom hfr hr hE

end

section
open PySem PySem.W PyProof.Rows

theorem RelK.find {K : Type} [DecidableEq K] {h : Heap} : ∀ {xs : List (K × AV)} {vs : List (K × Value)}, RelK h xs vs → ∀ {k : K} {x : AV}, xs.lookup k = some x → ∃ v, valueAt vs k = some v ∧ Rel h x v
  | [], _, _, k, x, e => by cases e
  | p :: xs, vs, ⟨v, r, e1, e2, e3⟩, k, x, e => by
    subst e1
    rw [List.lookup_cons] at e
    unfold valueAt
    by_cases hk : k = p.1
    · subst hk
      simp at e
      subst e
      exact ⟨v, by simp, e2⟩
    · rw [beq_eq_false_iff_ne.mpr hk] at e
      obtain ⟨v', e', r'⟩ := RelK.find e3 e
      refine ⟨v', ?_, r'⟩
      unfold valueAt at e'
      rw [List.find?_cons, decide_eq_false (fun q : p.1 = k => hk q.symm)]
      exact e'
theorem RelK.find_none {K : Type} [DecidableEq K] {h : Heap} : ∀ {xs : List (K × AV)} {vs : List (K × Value)}, RelK h xs vs → ∀ {k : K}, xs.lookup k = none → valueAt vs k = none
  | [], _, e, k, _ => by cases e; rfl
  | p :: xs, vs, ⟨v, r, e1, e2, e3⟩, k, e => by
    subst e1
    rw [List.lookup_cons] at e
    unfold valueAt
    by_cases hk : k = p.1
    · subst hk; simp at e
    · rw [beq_eq_false_iff_ne.mpr hk] at e
      have e' := RelK.find_none e3 e
      unfold valueAt at e'
      rw [List.find?_cons, decide_eq_false (fun q : p.1 = k => hk q.symm)]
      exact e'
theorem RelK.any {K : Type} [DecidableEq K] {h : Heap} {k : K} : ∀ {xs : List (K × AV)} {vs : List (K × Value)}, RelK h xs vs → vs.any (fun kv => kv.1 = k) = xs.any (fun kv => kv.1 = k)
  | [], _, e => by cases e; rfl
  | p :: xs, vs, ⟨v, r, e1, e2, e3⟩ => by subst e1; simp [RelK.any (k := k) e3]
theorem RelK.map {K : Type} [DecidableEq K] {h : Heap} {k : K} {x : AV} {v : Value} (rv : Rel h x v) : ∀ {xs : List (K × AV)} {vs : List (K × Value)}, RelK h xs vs →
    RelK h (xs.map fun kv => if kv.1 = k then (kv.1, x) else kv) (vs.map fun kv => if kv.1 = k then (kv.1, v) else kv)
  | [], _, e => by cases e; rfl
  | p :: xs, vs, ⟨u, r, e1, e2, e3⟩ => by
    subst e1
    by_cases hk : p.1 = k
    · exact ⟨v, _, by simp [hk], by simpa [hk] using rv, RelK.map rv e3⟩
    · exact ⟨u, _, by simp [hk], by simpa [hk] using e2, RelK.map rv e3⟩
theorem RelK.append {K : Type} {h : Heap} : ∀ {xs ys : List (K × AV)} {vs us : List (K × Value)}, RelK h xs vs → RelK h ys us → RelK h (xs ++ ys) (vs ++ us)
  | [], _, _, _, e, r => by cases e; exact r
  | _ :: _, _, _, _, ⟨u, r, e1, e2, e3⟩, q => by subst e1; exact ⟨u, _, rfl, e2, RelK.append e3 q⟩
theorem RelK.length {K : Type} {h : Heap} : ∀ {xs : List (K × AV)} {vs : List (K × Value)}, RelK h xs vs → vs.length = xs.length
  | [], _, e => by cases e; rfl
  | _ :: _, _, ⟨u, r, e1, e2, e3⟩ => by subst e1; simp [RelK.length e3]

noncomputable def storedA {K : Type} [DecidableEq K] (kvs : List (K × AV)) (k : K) (x : AV) : List (K × AV) :=
  if kvs.any (fun kv => kv.1 = k) then kvs.map (fun kv => if kv.1 = k then (kv.1, x) else kv) else kvs ++ [(k, x)]
theorem RelK.stored {K : Type} [DecidableEq K] {h : Heap} {k : K} {x : AV} {v : Value} {xs : List (K × AV)} {vs : List (K × Value)} (e : RelK h xs vs) (rv : Rel h x v) : RelK h (storedA xs k x) (stored vs k v) := by
  unfold storedA PySem.stored
  rw [e.any]
  by_cases hc : xs.any (fun kv => kv.1 = k) = true
  · rw [if_pos hc, if_pos hc]; exact e.map rv
  · rw [if_neg hc, if_neg hc]; exact e.append ⟨v, [], rfl, rv, rfl⟩

inductive GetK {K : Type} (k : K) (x : AV) : List (K × AV) → Prop
  | here {r} : GetK k x ((k, x) :: r)
  | there {p r} : GetK k x r → GetK k x (p :: r)
inductive PutK {K : Type} (k : K) (x : AV) : List (K × AV) → List (K × AV) → Prop
  | here {o r} : PutK k x ((k, o) :: r) ((k, x) :: r)
  | there {p r r'} : PutK k x r r' → PutK k x (p :: r) (p :: r')
theorem GetK.mem {K : Type} {k : K} {x : AV} {l : List (K × AV)} (h : GetK k x l) : (k, x) ∈ l := by
  induction h with
  | here => exact .head _
  | there _ ih => exact .tail _ ih
theorem PutK.key {K : Type} {k : K} {x : AV} {l l' : List (K × AV)} (h : PutK k x l l') : k ∈ l.map (·.1) := by
  induction h with
  | here => exact .head _
  | there _ ih => exact .tail _ ih
theorem GetK.look {K : Type} [DecidableEq K] {k : K} {x : AV} {l : List (K × AV)} (h : GetK k x l) : (l.map (·.1)).Nodup → l.lookup k = some x := by
  induction h with
  | here => intro _; rw [List.lookup_cons, beq_self_eq_true]
  | @there p r h ih =>
    intro n
    have hne : k ≠ p.1 := fun e => (List.nodup_cons.mp n).1 (show p.1 ∈ r.map (·.1) from e ▸ List.mem_map_of_mem (f := (·.1)) h.mem)
    rw [List.lookup_cons, beq_eq_false_iff_ne.mpr hne]
    exact ih (List.nodup_cons.mp n).2
theorem PutK.stored {K : Type} [DecidableEq K] {k : K} {x : AV} {l l' : List (K × AV)} (h : PutK k x l l') : (l.map (·.1)).Nodup → storedA l k x = l' := by
  induction h with
  | @here o r =>
    intro n
    have hr : r.map (fun kv => if kv.1 = k then (kv.1, x) else kv) = r := by
      have hk := (List.nodup_cons.mp n).1
      have : ∀ {r : List (K × AV)}, k ∉ r.map (·.1) → r.map (fun kv => if kv.1 = k then (kv.1, x) else kv) = r := by
        intro r
        induction r with
        | nil => intro _; rfl
        | cons p t ih =>
          intro h
          simp only [List.map_cons, List.mem_cons, not_or] at h ⊢
          rw [if_neg (fun e => h.1 e.symm), ih h.2]
      exact this hk
    unfold storedA
    rw [if_pos (by simp), List.map_cons, hr]
    simp
  | @there p r r' h ih =>
    intro n
    replace ih := ih (List.nodup_cons.mp n).2
    have hne : p.1 ≠ k := fun e => (List.nodup_cons.mp n).1 (show p.1 ∈ r.map (·.1) by rw [e]; exact h.key)
    have hany : r.any (fun kv => decide (kv.1 = k)) = true := by
      obtain ⟨q, hq, e⟩ := List.mem_map.mp h.key
      exact List.any_eq_true.mpr ⟨q, hq, by simpa using e⟩
    unfold storedA at ih ⊢
    rw [if_pos hany] at ih
    rw [if_pos (by simp only [List.any_cons, hany, Bool.or_true]), List.map_cons, ih, if_neg hne]
theorem RelK.keys {K : Type} {h : Heap} : ∀ {xs : List (K × AV)} {vs : List (K × Value)}, RelK h xs vs → vs.map (·.1) = xs.map (·.1)
  | [], _, e => by cases e; rfl
  | _ :: _, _, ⟨u, r, e1, e2, e3⟩ => by subst e1; simp [RelK.keys e3]
theorem DictOf.nd {prog : Program} {w : World} {K : Type} [DecidableEq K] {knd : KeyKind prog w K} {h : Heap} {d : Addr} {vs : List (K × Value)} (x : h.DictOf knd d vs) : (vs.map (·.1)).Nodup :=
  x.elim fun _ x => x.elim fun _ x => x.elim fun _ x => x.2.2.2.2.2

/-! ### the ledger -/
inductive GetO (d : Addr) (x : AO) : Led → Prop
  | here {r} : GetO d x ((d, x) :: r)
  | there {p r} : GetO d x r → GetO d x (p :: r)
theorem GetO.mem {d : Addr} {x : AO} {l : Led} (h : GetO d x l) : (d, x) ∈ l := by
  induction h with
  | here => exact .head _
  | there _ ih => exact .tail _ ih
inductive SetO (d : Addr) (x : AO) : Led → Led → Prop
  | here {o r} : SetO d x ((d, o) :: r) ((d, x) :: r)
  | there {p r r'} : SetO d x r r' → SetO d x (p :: r) (p :: r')
theorem SetO.keys {d : Addr} {x : AO} {l l' : Led} (h : SetO d x l l') : l'.map (·.1) = l.map (·.1) := by
  induction h with
  | here => rfl
  | there _ ih => rw [List.map_cons, List.map_cons, ih]
theorem SetO.key {d : Addr} {x : AO} {l l' : Led} (h : SetO d x l l') : d ∈ l.map (·.1) := by
  induction h with
  | here => exact .head _
  | there _ ih => exact .tail _ ih
theorem SetO.of {d : Addr} {x : AO} {l l' : Led} (h : SetO d x l l') : (l.map (·.1)).Nodup → ∀ {p}, p ∈ l' → p = (d, x) ∨ (p.1 ≠ d ∧ p ∈ l) := by
  induction h with
  | here =>
    intro n p hm
    rcases List.mem_cons.mp hm with e | hm
    · exact .inl e
    · exact .inr ⟨fun e => (List.nodup_cons.mp n).1 (List.mem_map.mpr ⟨_, hm, e⟩), .tail _ hm⟩
  | there h ih =>
    intro n p hm
    rcases List.mem_cons.mp hm with e | hm
    · subst e
      exact .inr ⟨fun e => (List.nodup_cons.mp n).1 (show p.1 ∈ _ from by rw [e]; exact h.key), .head _⟩
    · exact (ih (List.nodup_cons.mp n).2 hm).imp id fun h1 => ⟨h1.1, .tail _ h1.2⟩

section
variable {sc : Scope} {a : Act sc} {loc : Loc} {led : Led} {s : Shared} {K : KV}

/-- an object of the ledger changed -/
theorem Rep.change (R : Rep a loc led s) {d : Addr} {x : AO} {led' : Led} (g : SetO d x led led') {h' : Heap} {tk : Nat} (hs : Heap.SameBut d s.heap h') (ho : ObjIs a.w h' d x) :
    Rep a loc led' { s with heap := h', toks := tk } ∧ TK s.heap h' := by
  obtain ⟨p, hp, e⟩ := List.mem_map.mp g.key
  obtain ⟨o, eo, hn⟩ := (R.objs p hp).there
  rw [e] at eo hn
  have tk' : TK s.heap h' := TK.but hs hn
  have ap := R.apart p hp
  rw [e] at ap
  obtain ⟨m, ns, l⟩ := R.ns
  refine ⟨⟨R.gens, R.os, fun b o eb => (hs.2 b (fun q => ?_)).trans (R.keep b o eb), ⟨m, ?_, fun x bv hx => let ⟨v', e', r'⟩ := l x bv hx; ⟨v', e', r'.mono tk'⟩⟩, R.keys, R.kinds, fun q hq => ?_, fun q hq => ?_, g.keys ▸ R.nodup, R.fresh⟩, tk'⟩
  · exact gone2 q eb (ap.2.1)
  · exact ns.sameBut hs (Ne.symm ap.1)
  · rcases g.of R.nodup hq with e | ⟨hne, hm⟩
    · subst e; exact ho
    · exact (R.objs q hm).keep tk' fun o e => (hs.2 _ hne).trans e
  · rcases g.of R.nodup hq with e | ⟨hne, hm⟩
    · subst e; exact ap
    · exact R.apart q hm
/-- a new object -/
theorem Rep.alloc (O : a.Ok) (R : Rep a loc led s) {o : Obj} {x : AO} (ho : ObjIs a.w (s.heap.push o) s.heap.objs.size x) (tk : Nat) :
    Rep a loc ((s.heap.objs.size, x) :: led) { s with heap := s.heap.push o, toks := tk } ∧ TK s.heap (s.heap.push o) := by
  have hk : ∀ b o', s.heap.get? b = some o' → (s.heap.push o).get? b = some o' := fun b o' e => Heap.get?_push_of_some o e
  have R' := R.grow hk tk s.drawn
  have hn : s.heap.get? s.heap.objs.size = none := by
    cases q : s.heap.get? s.heap.objs.size with
    | none => rfl
    | some o => exact absurd (Heap.lt_size q) (Nat.lt_irrefl _)
  refine ⟨⟨R'.gens, R'.os, R'.keep, R'.ns, R'.keys, R'.kinds, fun p hp => ?_, fun p hp => ?_, ?_, R'.fresh⟩, TK.keeps hk⟩
  · rcases List.mem_cons.mp hp with rfl | hp
    · exact ho
    · exact R'.objs p hp
  · rcases List.mem_cons.mp hp with rfl | hp
    · obtain ⟨m, ns, _⟩ := R.ns
      refine ⟨Ne.symm (Nat.ne_of_lt ns.lt), ?_, (O.glob.1.g.keeps R.keep).lt⟩
      cases q : a.h₀.get? s.heap.objs.size with
      | none => rfl
      | some o => exact gone (R.keep _ _ q) hn
    · exact R.apart p hp
  · rw [List.map_cons, List.nodup_cons]
    refine ⟨fun hm => ?_, R.nodup⟩
    obtain ⟨p, hp, e⟩ := List.mem_map.mp hm
    obtain ⟨o', eo, _⟩ := (R.objs p hp).there
    rw [e, hn] at eo; cases eo

/-! ### subscripts -/
theorem sub_dS {value slice : Expr} {d : Addr} {x : Str} {kvs : List (Str × AV)} {av : AV} (g : GetO d (.dS kvs) led) (hl : GetK x av kvs)
    (hs : ∀ t, subscripted slice false (.ref d) (.str x t) = operate [.ref d, .str x t] (getItem (.ref d) (.str x t))) (k : K av loc led) : Op2 a (subscriptTail value slice) (.ref d) (.str x) loc led K := by
  rintro s v u R rfl ⟨t, rfl⟩
  obtain ⟨vs, hd, hr⟩ := R.objs _ g.mem
  obtain ⟨v, e, r⟩ := hr.find (hl.look (hr.keys ▸ DictOf.nd hd))
  have hm := hd.mapOf
  exact tail_any hm.typeIs slot_dict_getitem.lookup (wpAny_getItem_of (strKind_is PW a.w x t) hm e (.toks k R r _)) (hs t)
theorem sub_list {value slice : Expr} {d : Addr} {i : Int} {xs : List AV} {av : AV} (g : GetO d (.list xs) led) (h0 : 0 ≤ i) (h1 : i < 2 ^ 63) (hl : xs[i.toNat]? = some av)
    (hs : ∀ t, subscripted slice false (.ref d) (.int i t) = operate [.ref d, .int i t] (getItem (.ref d) (.int i t))) (k : K av loc led) : Op2 a (subscriptTail value slice) (.ref d) (.int i) loc led K := by
  rintro s v u R rfl ⟨t, rfl⟩
  obtain ⟨vs, n, e, hr⟩ := R.objs _ g.mem
  obtain ⟨v, ev, r⟩ := hr.get hl
  have hL : s.heap.IsList d vs.toArray := ⟨_, e, rfl, n, rfl⟩
  exact tail_any hL.typeIs slot_list_getitem.lookup (wpAny_getItem_list hL h0 h1 (by simpa using ev) (.here k R r)) (hs t)

/-! ### stores into dicts -/
noncomputable def SetA {sc : Scope} (a : Act sc) (x y z : AV) (loc : Loc) (led : Led) (KU : Loc → Led → Prop) : Prop :=
  ∀ s v u t, Rep a loc led s → Rel s.heap x v → Rel s.heap y u → Rel s.heap z t → wpAny a.M a.A (setItem u t v) (PostU a s.heap KU) a.E s
variable {KS : KSt}
noncomputable abbrev cSet3 (a : Act sc) (x y : AV) (KU : KUn) : KV := fun z loc led => SetA a x y z loc led KU
noncomputable abbrev cSet2 (a : Act sc) (i : Expr) (x : AV) (KU : KUn) : KV := fun y loc led => Ev a (eval i a.env) loc led (cSet3 a x y KU)
noncomputable abbrev cSet1 (a : Act sc) (o i : Expr) (KU : KUn) : KV := fun x loc led => Ev a (eval o a.env) loc led (cSet2 a i x KU)
noncomputable abbrev cNextU (KS : KSt) : KUn := fun loc led => KS .next loc led
theorem Ex_AssignSub {o i : Expr} {p' pos : Pos} {value : Expr} (hs : swapsWith value (some (.Subscript o i p')) pos.line a.env = pure false)
    (h : Ev a (eval value a.env) loc led (cSet1 a o i (cNextU KS))) : Ex a (exec (.Assign [.Subscript o i p'] value pos) a.env) loc led KS := by
  intro s R
  refine wpAny_Assign_Subscript (wpAny_mono (h s R) (fun v s₁ p => ?_) fun _ _ e => e) hs
  obtain ⟨x, l1, d1, k1, R1, t1, r1⟩ := p
  refine wpAny_mono (k1 s₁ R1) (fun u s₂ p => ?_) fun _ _ e => e
  obtain ⟨y, l2, d2, k2, R2, t2, r2⟩ := p
  refine wpAny_mono (k2 s₂ R2) (fun t s₃ p => ?_) fun _ _ e => e
  obtain ⟨z, l3, d3, k3, R3, t3, r3⟩ := p
  refine wpAny_mono (k3 s₃ v u t R3 (r1.mono (t2.trans t3)) (r2.mono t3) r3) (fun _ s₄ p => ?_) fun _ _ e => e
  obtain ⟨l4, d4, k4, R4, t4⟩ := p
  exact (.inl ⟨.next, l4, d4, k4, R4, ((t1.trans t2).trans t3).trans t4, rfl⟩)
theorem set_dS {d : Addr} {x : Str} {kvs kvs' : List (Str × AV)} {av : AV} {led' : Led} {KU : Loc → Led → Prop} (g : GetO d (.dS kvs) led) (p : PutK x av kvs kvs') (g' : SetO d (.dS kvs') led led') (hz : kvs.length ≤ 1000) (k : KU loc led') :
    SetA a av (.ref d) (.str x) loc led KU := by
  rintro s v u t R rv rfl ⟨t, rfl⟩
  obtain ⟨vs, hd, hr⟩ := R.objs _ g.mem
  have e : storedA kvs x av = kvs' := p.stored (hr.keys ▸ DictOf.nd hd)
  refine wpAny_setItem_pairs (strKind_is PW a.w x t) hd (fun h' hd' hs => ?_) (by rw [hr.length]; exact Nat.le_trans hz (by decide))
  obtain ⟨o, eo, hn⟩ := (R.objs _ g.mem).there
  have tk : TK s.heap h' := TK.but hs hn
  obtain ⟨R', t'⟩ := R.change g' (tk := s.toks + 1) hs ⟨_, hd', e ▸ (hr.stored rv).mono tk⟩
  exact ⟨loc, led', k, R', t'⟩

/-! ### len -/
theorem len_list {d : Addr} {xs : List AV} (g : GetO d (.list xs) led) (hz : (xs.length : Int) < 2 ^ 63) (k : K (.int xs.length) loc led) : OpL a (fun vs => call (.builtin "len") vs) [.ref d] loc led K := by
  intro s vs R r
  unfold RelL at r
  obtain ⟨v, q, rfl, rfl, r⟩ := r
  cases r
  obtain ⟨ws, n, e, hr⟩ := R.objs _ g.mem
  have hL : s.heap.IsList d ws.toArray := ⟨_, e, rfl, n, rfl⟩
  have hsz : ws.toArray.size = xs.length := by simp [hr.length]
  refine Calls.call_len_list hL (by rw [hsz]; exact hz) ?_
  rw [hsz]
  exact .toks k R ⟨_, rfl⟩ _
end

/-! ## the text's scopes -/
noncomputable def P0 : Params := { strHash := fun _ => 0, shareClass := fun _ => 0, mergeTok := id, idOf := fun _ => 0, idOfShared := fun _ _ => 0, followText := fun _ => false, idOfImm := fun _ => 0 }
noncomputable def scf (f : Addr) : Scope := match (KF P0).lookup f with
  | some ⟨_, _, .func fd, _⟩ => fd.scope
  | _ => { kind := .function, names := [], isGenerator := false, isCoroutine := false, more := [] }

end

section
open PySem PySem.W PyProof.Rows
section
variable {sc : Scope} {a : Act sc} {loc : Loc} {led : Led} {s : Shared} {K : KV} {KS : KSt} {KB : KBo} {KL : KLi} {KU : KUn}

theorem RelL.one {h : Heap} {x : AV} {vs : List Value} (r : RelL h [x] vs) : ∃ v, vs = [v] ∧ Rel h x v := by
  unfold RelL at r; obtain ⟨v, q, rfl, r1, r2⟩ := r; cases r2; exact ⟨v, rfl, r1⟩
theorem RelL.two {h : Heap} {x y : AV} {vs : List Value} (r : RelL h [x, y] vs) : ∃ v u, vs = [v, u] ∧ Rel h x v ∧ Rel h y u := by
  unfold RelL at r; obtain ⟨v, q, rfl, r1, r2⟩ := r; obtain ⟨u, rfl, r3⟩ := r2.one; exact ⟨v, u, rfl, r1, r3⟩
theorem RelL.three {h : Heap} {x y z : AV} {vs : List Value} (r : RelL h [x, y, z] vs) : ∃ v u t, vs = [v, u, t] ∧ Rel h x v ∧ Rel h y u ∧ Rel h z t := by
  unfold RelL at r; obtain ⟨v, q, rfl, r1, r2⟩ := r; obtain ⟨u, t, rfl, r3, r4⟩ := r2.two; exact ⟨v, u, t, rfl, r1, r3, r4⟩

/-! ### texts -/
theorem add_ss {x y : Str} (hz : x.length + y.length ≤ sizeLine) (k : K (.str (x ++ y)) loc led) : Op2 a (binaryOp .Add) (.str x) (.str y) loc led K := by
  rintro s v u R ⟨t, rfl⟩ ⟨t', rfl⟩; exact add_str (fun t' tk => .toks k R ⟨_, rfl⟩ _) hz
theorem eq_ss {x y : Str} (k : K (.bool (x == y)) loc led) : Op2 a (compareOp .Eq) (.str x) (.str y) loc led K := by
  rintro s v u R ⟨t, rfl⟩ ⟨t', rfl⟩; exact eq_str (.here k R rfl)
theorem ne_ss {x y : Str} (k : K (.bool (x != y)) loc led) : Op2 a (compareOp .NotEq) (.str x) (.str y) loc led K := by
  rintro s v u R ⟨t, rfl⟩ ⟨t', rfl⟩; exact ne_str (.here k R rfl)
theorem in_ss {x : Str} {c : Nat} (k : K (.bool (decide (c ∈ x.cps.toList))) loc led) : Op2 a (compareOp .In) (.str ⟨#[c]⟩) (.str x) loc led K := by
  rintro s v u R ⟨t, rfl⟩ ⟨t', rfl⟩
  refine in_str ?_
  rw [StrLaws.found_one]
  exact .here k R rfl
theorem len_s {x : Str} (hz : (x.length : Int) < 2 ^ 63) (k : K (.int x.length) loc led) : OpL a (fun vs => call (.builtin "len") vs) [.str x] loc led K := by
  intro s vs R r
  obtain ⟨v, rfl, t, rfl⟩ := r.one
  exact len_str (by omega) (.toks k R ⟨_, rfl⟩ _)
theorem ord_s {c : Nat} (k : K (.int c) loc led) : OpL a (fun vs => call (.builtin "ord") vs) [.str ⟨#[c]⟩] loc led K := by
  intro s vs R r
  obtain ⟨v, rfl, t, rfl⟩ := r.one
  exact ord_of_one rfl (.toks k R ⟨_, rfl⟩ _)
theorem chr_i {i : Int} (h0 : 0 ≤ i) (h1 : i ≤ 1114111) (k : K (.str ⟨#[i.toNat]⟩) loc led) : OpL a (fun vs => call (.builtin "chr") vs) [.int i] loc led K := by
  intro s vs R r
  obtain ⟨v, rfl, t, rfl⟩ := r.one
  exact chr_of_range h0 h1 (.toks k R ⟨_, rfl⟩ _)
theorem seq_at {i : Int} {n : Nat} (h0 : 0 ≤ i) (h : i.toNat < n) : seqIndex? i n = some i.toNat := by
  unfold seqIndex?
  have h1 : ¬ i < 0 := by omega
  have h2 : i < (n : Int) := by omega
  simp [h1, h0, h2]
theorem item_cp {x : Str} {i : Int} {c : Nat} (h0 : 0 ≤ i) (hc : x.cps.toList[i.toNat]? = some c) : Txt.item x i = ⟨#[c]⟩ := by
  have hlt : i.toNat < x.length := by
    have := (List.getElem?_eq_some_iff.mp hc).1
    simpa [Str.length] using this
  have e : Txt.charAt x i = some c := by
    unfold Txt.charAt
    rw [seq_at h0 hlt]
    simp only [Array.getElem?_toList] at hc
    exact hc
  unfold Txt.item
  rw [e]; rfl
theorem sub_s {value slice : Expr} {x : Str} {i : Int} {c : Nat} (h0 : 0 ≤ i) (h1 : i < 2 ^ 62) (hc : x.cps.toList[i.toNat]? = some c)
    (hs : ∀ t t', subscripted slice false (.str x t) (.int i t') = operate [.str x t, .int i t'] (getItem (.str x t) (.int i t'))) (hg : ∀ t r, letTemporaryGo value (.str x t) r = pure ())
    (k : K (.str ⟨#[c]⟩) loc led) : Op2 a (subscriptTail value slice) (.str x) (.int i) loc led K := by
  rintro s v u R ⟨t, rfl⟩ ⟨t', rfl⟩
  have hlt : i < x.length := by
    have := (List.getElem?_eq_some_iff.mp hc).1
    have e : x.cps.toList.length = x.length := by simp [Str.length]
    omega
  refine item_str (fitsSsize_of (N := 2 ^ 62) (by omega) h1 (by decide)) (by omega) hlt (fun _ => ?_) (hs t t') (hg t)
  rw [item_cp h0 hc]
  exact .toks k R ⟨_, rfl⟩ _

/-! ### methods of the built-in types -/
/-- looking a method up -/
noncomputable def Meth (a : Act sc) (name : Str) (id : String) (x : AV) (loc : Loc) (led : Led) : Prop :=
  ∀ s v pl Q, Rep a loc led s → Rel s.heap x v → Q (.builtin id, [v]) s → wpAny a.M a.A (getMethod v name pl) Q a.E s
noncomputable abbrev cMeth2 (a : Act sc) (id : String) (x : AV) (K : KV) : KLi := fun xs loc led => OpL a (fun vs => call (.builtin id) vs) (x :: xs) loc led K
noncomputable def MethA (a : Act sc) (name : Str) (args : List Expr) (pos : Pos) (K : KV) (x : AV) (loc : Loc) (led : Led) : Prop :=
  ∃ id, Meth a name id x loc led ∧ EvL a args pos loc led (cMeth2 a id x K)
theorem MethA.mk {name : Str} {args : List Expr} {pos : Pos} {x : AV} {id : String} (m : Meth a name id x loc led) (h : EvL a args pos loc led (cMeth2 a id x K)) : MethA a name args pos K x loc led := ⟨id, m, h⟩
noncomputable abbrev cMeth (a : Act sc) (name : Str) (args : List Expr) (pos : Pos) (K : KV) : KV := fun x loc led => MethA a name args pos K x loc led
theorem Ev_meth {o : Expr} {name : Str} {apos pos : Pos} {args : List Expr} {pl : Sem Bool}
    (he : eval (.Call (.Attribute o name apos) args [] pos) a.env = (do
      let ov ← eval o a.env
      standAt apos.atName
      let (f, first) ← holding [ov] (getMethod ov name pl)
      callWith pos f first (backTo pos (starEach args a.env)) []))
    (hpl : (backTo pos (starEach args a.env)).any (·.1) = false) (h : Ev a (eval o a.env) loc led (cMeth a name args pos K)) : Ev a (eval (.Call (.Attribute o name apos) args [] pos) a.env) loc led K := by
  intro s R
  refine MethodCall_ (pl := pl) (wpAny_mono (h s R) (fun v s₁ p => ?_) fun _ _ e => e) he
  obtain ⟨x, l1, d1, ⟨id, m, k1⟩, R1, t1, r1⟩ := p
  refine m s₁ v pl _ R1 r1 ?_
  refine Calls.callWith_builtin hpl (evalArgs_any hpl ?_)
  refine wpAny_mono (k1 s₁ R1) (fun vs s₂ p => ?_) fun _ _ e => e
  obtain ⟨xs, l2, d2, k2, R2, t2, r2⟩ := p
  exact wpAny_mono (k2 s₂ (v :: vs) R2 (.cons (r1.mono t2) r2)) (fun _ _ p => p.from (t1.trans t2)) fun _ _ e => e
theorem m_lower {x : Str} : Meth a (Str.ofString "lower") "str.lower" (.str x) loc led := by rintro s v pl Q R ⟨t, rfl⟩ h; with_reducible exact GM.lower h
theorem m_find {x : Str} : Meth a (Str.ofString "find") "str.find" (.str x) loc led := by rintro s v pl Q R ⟨t, rfl⟩ h; with_reducible exact GM.find h
theorem m_count {x : Str} : Meth a (Str.ofString "count") "str.count" (.str x) loc led := by rintro s v pl Q R ⟨t, rfl⟩ h; with_reducible exact GM.count h
theorem m_join {x : Str} : Meth a (Str.ofString "join") "str.join" (.str x) loc led := by rintro s v pl Q R ⟨t, rfl⟩ h; with_reducible exact GM.join h
theorem m_list {name : Str} {id : String} {d : Addr} {xs : List AV} (g : GetO d (.list xs) led) (slot : Slot "list" name id) (ty : typeOf (.builtin id) = pure (.type "method_descriptor")) : Meth a name id (.ref d) loc led := by
  rintro s v pl Q R rfl h
  obtain ⟨vs, n, e, hr⟩ := R.objs _ g.mem
  exact getMethod_builtin ⟨_, e, rfl⟩ PySem.F.plainAttrs_list slot ty (fun a e' => by cases e'; exact ⟨_, e, rfl⟩) h
theorem m_append {d : Addr} {xs : List AV} (g : GetO d (.list xs) led) : Meth a (Str.ofString "append") "list.append" (.ref d) loc led := m_list g PySem.F.slot_list_append PySem.F.type_list_append
theorem m_index {d : Addr} {xs : List AV} (g : GetO d (.list xs) led) : Meth a (Str.ofString "index") "list.index" (.ref d) loc led := m_list g PySem.F.slot_list_index PySem.F.type_list_index
theorem m_dI {name : Str} {id : String} {d : Addr} {xs : List (Int × AV)} (g : GetO d (.dI xs) led) (slot : Slot "dict" name id) (ty : typeOf (.builtin id) = pure (.type "method_descriptor")) : Meth a name id (.ref d) loc led := by
  rintro s v pl Q R rfl h
  obtain ⟨vs, hd, hr⟩ := R.objs _ g.mem
  exact getMethod_builtin hd.mapOf.typeIs PySem.F.plainAttrs_dict slot ty hd.mapOf.noDict h
theorem m_dget {d : Addr} {xs : List (Int × AV)} (g : GetO d (.dI xs) led) : Meth a (Str.ofString "get") "dict.get" (.ref d) loc led := m_dI g PySem.F.slot_dict_get PySem.F.type_dict_get
theorem m_dpop {d : Addr} {xs : List (Int × AV)} (g : GetO d (.dI xs) led) : Meth a (Str.ofString "pop") "dict.pop" (.ref d) loc led := m_dI g PySem.F.slot_dict_pop PySem.F.type_dict_pop

theorem lower_s {x : Str} (hz : x.length ≤ 5592405) (k : K (.str (Txt.lower x)) loc led) : OpL a (fun vs => call (.builtin "str.lower") vs) [.str x] loc led K := by
  intro s vs R r
  obtain ⟨v, rfl, t, rfl⟩ := r.one
  exact SCL.lower hz fun _ => .toks k R ⟨_, rfl⟩ _
theorem find_s {x y : Str} (k : K (.int (Txt.find x y)) loc led) : OpL a (fun vs => call (.builtin "str.find") vs) [.str x, .str y] loc led K := by
  intro s vs R r
  obtain ⟨v, u, rfl, ⟨t, rfl⟩, ⟨t', rfl⟩⟩ := r.two
  exact SC.find (.toks k R ⟨_, rfl⟩ _)
theorem count_s {x y : Str} (k : K (.int (Txt.count x y)) loc led) : OpL a (fun vs => call (.builtin "str.count") vs) [.str x, .str y] loc led K := by
  intro s vs R r
  obtain ⟨v, u, rfl, ⟨t, rfl⟩, ⟨t', rfl⟩⟩ := r.two
  exact SC.count (.toks k R ⟨_, rfl⟩ _)
theorem relL_strs {h : Heap} : ∀ {ys : List Str} {vs : List Value}, RelL h (ys.map .str) vs → StrsAre vs ys
  | [], vs, r => by unfold List.map RelL at r; subst r; exact .nil
  | y :: ys, vs, r => by
    simp only [List.map_cons] at r
    unfold RelL at r
    obtain ⟨v, q, rfl, ⟨t, rfl⟩, r2⟩ := r
    exact .cons y t (relL_strs r2)
theorem relL_ints {h : Heap} : ∀ {ys : List Int} {vs : List Value}, RelL h (ys.map .int) vs → IntsAre vs ys
  | [], vs, r => by unfold List.map RelL at r; subst r; exact .nil
  | y :: ys, vs, r => by
    simp only [List.map_cons] at r
    unfold RelL at r
    obtain ⟨v, q, rfl, ⟨t, rfl⟩, r2⟩ := r
    exact .cons y t (relL_ints r2)
theorem ints_relL {h : Heap} {ys : List Int} {vs : List Value} (r : IntsAre vs ys) : RelL h (ys.map .int) vs := by
  induction r with
  | nil => exact .nil
  | cons y t _ ih => exact .cons ⟨_, rfl⟩ ih
theorem join_s {x : Str} {d : Addr} {ys : List Str} (g : GetO d (.list (ys.map .str)) led) (hx : x.length ≤ 64) (hz : (ys.map (·.length)).sum + ys.length * 64 ≤ 16777216) (k : K (.str (Txt.join x ys)) loc led) :
    OpL a (fun vs => call (.builtin "str.join") vs) [.str x, .ref d] loc led K := by
  intro s vs R r
  obtain ⟨v, u, rfl, ⟨t, rfl⟩, rfl⟩ := r.two
  obtain ⟨ws, n, e, hr⟩ := R.objs _ g.mem
  exact join_listC (ys := ys) (show s.heap.IsList d ws.toArray from ⟨_, e, rfl, n, rfl⟩) (by simpa using relL_strs hr) hx hz fun t' kk => .toks k R ⟨_, rfl⟩ _

/-! ### lists -/
theorem append_l {d : Addr} {xs : List AV} {x : AV} {led' : Led} (g : GetO d (.list xs) led) (g' : SetO d (.list (xs ++ [x])) led led') (hz : xs.length ≤ 1000000) (k : K .none loc led') :
    OpL a (fun vs => call (.builtin "list.append") vs) [.ref d, x] loc led K := by
  intro s vs R r
  obtain ⟨v, u, rfl, rfl, ru⟩ := r.two
  obtain ⟨ws, n, e, hr⟩ := R.objs _ g.mem
  refine wpAny_list_append_plain (items := ws.toArray) ⟨n, e⟩ (fun h' hp hs => ?_) ?_
  · obtain ⟨n', ho⟩ := hp
    have tk : TK s.heap h' := TK.but hs (not_tup e (by simp))
    obtain ⟨R', t'⟩ := R.change g' (tk := s.toks) hs ⟨ws ++ [u], n', by simpa using ho, RelL.append (hr.mono tk) (.cons (ru.mono tk) .nil)⟩
    exact ⟨.none, loc, led', k, R', t', rfl⟩
  · rw [List.size_toArray, hr.length]; exact Nat.le_trans hz (by decide)
theorem new_list {xs : List AV} (O : a.Ok) (hz : xs.length ≤ 1000000) (k : ∀ d, K (.ref d) loc ((d, .list xs) :: led)) : OpL a newList xs loc led K := by
  intro s vs R r
  refine wpAny_newList ?_ (by rw [r.length]; exact Nat.le_trans hz (by decide))
  obtain ⟨R', t'⟩ := R.alloc O (o := { cls := .type "list", data := .seq vs.toArray }) (x := .list xs) ⟨vs, 0, Heap.get?_push_size _ rfl, r.mono (TK.keeps fun _ _ e => Heap.get?_push_of_some _ e)⟩ s.toks
  exact ⟨_, loc, _, k s.heap.objs.size, R', t', rfl⟩
theorem new_tuple {xs : List AV} (hz : xs.length ≤ 1000000) (k : K (.tup xs) loc led) : OpL a newTuple xs loc led K := by
  intro s vs R r
  refine wpAny_newTuple ?_ (by rw [r.length]; exact Nat.le_trans hz (by decide))
  have hk : ∀ b o', s.heap.get? b = some o' → (s.heap.push { cls := .type "tuple", data := .seq vs.toArray }).get? b = some o' := fun b o' e => Heap.get?_push_of_some _ e
  have tk := TK.keeps hk
  refine ⟨.tup xs, loc, led, k, R.grow hk s.toks s.drawn, tk, ?_⟩
  unfold Rel
  exact ⟨_, vs, rfl, ⟨_, Heap.get?_push_size _ rfl, rfl, 0, rfl⟩, r.mono tk⟩
noncomputable abbrev cNewL (a : Act sc) (K : KV) : KLi := fun xs loc led => OpL a newList xs loc led K
noncomputable abbrev cNewT (a : Act sc) (K : KV) : KLi := fun xs loc led => OpL a newTuple xs loc led K
theorem Ev_List {elts : List Expr} {pos : Pos} (h : EvL a elts pos loc led (cNewL a K)) : Ev a (eval (.List elts pos) a.env) loc led K := by
  intro s R
  refine List_ (wpAny_mono (h s R) (fun vs s₁ p => ?_) fun _ _ e => e)
  obtain ⟨xs, l1, d1, k1, R1, t1, r1⟩ := p
  exact wpAny_mono (k1 s₁ vs R1 r1) (fun _ _ p => p.from t1) fun _ _ e => e
theorem Ev_Tuple {elts : List Expr} {k : Nat} {pos : Pos} (h : EvL a elts pos loc led (cNewT a K)) : Ev a (eval (.Tuple elts k pos) a.env) loc led K := by
  intro s R
  refine Tuple_ (wpAny_mono (h s R) (fun vs s₁ p => ?_) fun _ _ e => e)
  obtain ⟨xs, l1, d1, k1, R1, t1, r1⟩ := p
  exact wpAny_mono (k1 s₁ vs R1 r1) (fun _ _ p => p.from t1) fun _ _ e => e
theorem sub_tup {value slice : Expr} {xs : List AV} {i : Int} {x : AV} (h0 : 0 ≤ i) (h1 : i < 2 ^ 63) (hx : xs[i.toNat]? = some x)
    (hs : ∀ d t, subscripted slice false (.ref d) (.int i t) = operate [.ref d, .int i t] (getItem (.ref d) (.int i t))) (k : K x loc led) : Op2 a (subscriptTail value slice) (.tup xs) (.int i) loc led K := by
  rintro s v u R r ⟨t, rfl⟩
  unfold Rel at r
  obtain ⟨d, vs, rfl, ht, hr⟩ := r
  obtain ⟨v, ev, rv⟩ := hr.get hx
  have hlt := (List.getElem?_eq_some_iff.mp ev).1
  exact item_tupleT (j := i.toNat) ht (by omega) h1 (seq_at h0 hlt) ev (.here k R rv) (hs d t)
end

end

section
open PySem PySem.W PyProof.Rows
section
variable {sc : Scope} {a : Act sc} {loc : Loc} {led : Led} {s : Shared} {K : KV} {KS : KSt} {KB : KBo} {KL : KLi} {KU : KUn}

/-! ### calls of types -/
theorem Ev_callT {T : String} {x : Str} {np pos : Pos} {args : List Expr} (O : a.Ok) {gs : List (Str × Value)} (G : GOk sc gs) (g : GetG x (.type T) gs)
    (hpl : (backTo pos (starEach args a.env)).any (·.1) = false) (h : EvL a args pos loc led (cCall a (.type T) K)) :
    Ev a (eval (.Call (.Name x np) args [] pos) a.env) loc led K := by
  intro s R
  refine wpAny_Call_NameR (glob_at O R G g ?_)
  refine PyProof.Rows.callWith_type hpl (evalArgs_any hpl ?_)
  refine wpAny_mono (h s R) (fun vs s₁ p => ?_) fun _ _ e => e
  obtain ⟨xs, l1, d1, k1, R1, t1, r1⟩ := p
  exact wpAny_mono (k1 s₁ vs R1 r1) (fun _ _ p => p.from t1) fun _ _ e => e
theorem range_1 {n : Int} (O : a.Ok) (k : ∀ r, K (.ref r) loc ((r, .range 0 n) :: led)) : OpL a (fun vs => call (.type "range") vs) [.int n] loc led K := by
  intro s vs R r
  obtain ⟨v, rfl, t, rfl⟩ := r.one
  refine call_range_1 ?_
  obtain ⟨R', t'⟩ := R.alloc O (x := .range 0 n) ⟨_, _, _, IsRange.new s.heap 0 n 1 s.toks t (s.toks + 1)⟩ (s.toks + 1 + 1)
  exact ⟨_, loc, _, k s.heap.objs.size, R', t', rfl⟩
theorem range_2 {m n : Int} (O : a.Ok) (k : ∀ r, K (.ref r) loc ((r, .range m n) :: led)) : OpL a (fun vs => call (.type "range") vs) [.int m, .int n] loc led K := by
  intro s vs R r
  obtain ⟨v, u, rfl, ⟨t, rfl⟩, ⟨t', rfl⟩⟩ := r.two
  refine call_range_2 ?_
  obtain ⟨R', t'⟩ := R.alloc O (x := .range m n) ⟨_, _, _, IsRange.new s.heap m n 1 t t' s.toks⟩ (s.toks + 1)
  exact ⟨_, loc, _, k s.heap.objs.size, R', t', rfl⟩

/-! ### iteration -/
noncomputable def LetGo (h : Heap) (I : Addr) : Prop := ∃ o t, h.get? I = some o ∧ o.cls = .type t ∧ (["enumerate", "zip", "dict_itemiterator", "dict_reverseitemiterator", "odict_iterator", "itertools.zip_longest", "itertools.pairwise"].contains t) = false
/-- x is walked item by item; what is hidden while it lasts -/
noncomputable def IterOf (a : Act sc) (x : AV) (its : List AV) (hid : Led) (loc : Loc) (led : Led) : Prop :=
  ∀ s v Q, Rep a loc (hid ++ led) s → Rel s.heap x v →
    (∀ (I : Addr) (fp wr : List Addr) (P : Nat → Value → Prop) (St : Nat → Heap → Prop) (h' : Heap), Walks PW a.w a.A I fp wr its.length P St → St 0 h' → (∀ b o, s.heap.get? b = some o → h'.get? b = some o) →
      (∀ b ∈ wr, s.heap.get? b = none) → (∀ i h, St i h → ∀ b ∈ wr, ∀ vs, ¬ IsTup h b vs) → (∀ b ∈ fp, b ∉ led.map (·.1) ∧ b ≠ a.L) → (∀ i h, St i h → ∀ b ∈ fp, ∃ o, h.get? b = some o) → (∀ i h, St i h → LetGo h I) → (∀ i v h'', i < its.length → P i v → TK s.heap h'' → ∃ av, its[i]? = some av ∧ Rel h'' av v) → Q (.ref I) { s with heap := h' }) →
    wpAny a.M a.A (pyIter v) Q a.E s

theorem ty_ne {x y : String} {P : Prop} (e : Value.type x = Value.type y) (h : x ≠ y) : P := absurd (by injection e) h
theorem fresh_get (h : Heap) : h.get? h.objs.size = none := by
  cases q : h.get? h.objs.size with
  | none => rfl
  | some o => exact absurd (Heap.lt_size q) (Nat.lt_irrefl _)
theorem Rep.fresh_led (R : Rep a loc led s) : s.heap.objs.size ∉ led.map (·.1) ∧ s.heap.objs.size ≠ a.L := by
  refine ⟨fun hm => ?_, fun e => ?_⟩
  · obtain ⟨p, hp, e⟩ := List.mem_map.mp hm
    obtain ⟨o, eo, _⟩ := (R.objs p hp).there
    rw [e, fresh_get] at eo; cases eo
  · obtain ⟨m, ns, _⟩ := R.ns
    exact absurd ns.lt (by rw [e]; exact Nat.lt_irrefl _)

theorem iter_list {d : Addr} {its : List AV} (O : a.Ok) (H : a.hd = true) : IterOf a (.ref d) its [(d, .list its)] loc led := by
  rintro s v Q R rfl h
  obtain ⟨vs, n, e, hr⟩ := R.objs (d, .list its) (.head _)
  have hls : s.heap.IsList d vs.toArray := ⟨_, e, rfl, n, rfl⟩
  have hne : d ≠ s.heap.objs.size := Nat.ne_of_lt (Heap.lt_size e)
  refine wpAny_pyIter_list hls ?_
  have W := Walks.list (prog := PW) (w := a.w) (A := a.A) (O.room.1 H) s.heap.objs.size d hne vs.toArray
  have hlen : vs.toArray.size = its.length := by simp [hr.length]
  rw [hlen] at W
  have hf := R.fresh_led
  refine h _ _ _ _ _ _ W ⟨⟨_, Heap.get?_push_size _ rfl, rfl, rfl⟩, hls.at fun o e => Heap.get?_push_of_some _ e⟩ (fun b o e => Heap.get?_push_of_some _ e) (fun b hb => ?_) (fun i h st b hb vs ht => ?_) (fun b hb => ?_) (fun i h st b hb => ?_) (fun i h st => ?_) (fun i v h'' hi hP tk => ?_)
  · rw [List.mem_singleton.mp hb]; exact fresh_get _
  · rw [List.mem_singleton.mp hb] at ht
    obtain ⟨⟨o, e1, e2, _⟩, _⟩ := st
    obtain ⟨o', e3, e4, _⟩ := ht
    rw [e1] at e3; cases e3; rw [e2] at e4; exact ty_ne e4 (by decide)
  · rcases List.mem_cons.mp hb with rfl | hb
    · exact ⟨fun hm => hf.1 (List.mem_cons_of_mem _ hm), hf.2⟩
    · rw [List.mem_singleton.mp hb]
      exact ⟨(List.nodup_cons.mp R.nodup).1, (R.apart _ (.head _)).1⟩
  · obtain ⟨⟨o, e1, _⟩, o', e2, _⟩ := st
    rcases List.mem_cons.mp hb with rfl | hb
    · exact ⟨o, e1⟩
    · rw [List.mem_singleton.mp hb]; exact ⟨o', e2⟩
  · obtain ⟨⟨o, e1, e2, _⟩, _⟩ := st
    exact ⟨o, _, e1, e2, by decide⟩
  · have hi' : i < vs.length := by rw [hr.length]; exact hi
    obtain ⟨u, eu, ru⟩ := hr.get (show its[i]? = some its[i] by simp [hi])
    have : vs[i]? = some v := by simpa using hP
    rw [this] at eu; cases eu
    exact ⟨its[i], by simp [hi], ru.mono tk⟩
noncomputable def signs (x : Str) : List AV := x.cps.toList.map fun c => .str ⟨#[c]⟩
theorem iter_str {x : Str} (O : a.Ok) (H : a.hd = true) : IterOf a (.str x) (signs x) [] loc led := by
  rintro s v Q R ⟨t, rfl⟩ h
  have hf := R.fresh_led
  have hl : x.cps.size = (signs x).length := by simp [signs]
  have item : ∀ i v h'', i < (signs x).length → SignAt x i v → TK s.heap h'' → ∃ av, (signs x)[i]? = some av ∧ Rel h'' av v := by
    rintro i v h'' hi ⟨c, u, hc, rfl⟩ tk
    refine ⟨.str ⟨#[c]⟩, ?_, _, rfl⟩
    unfold signs
    rw [List.getElem?_map, Array.getElem?_toList, hc]; rfl
  have fr : ∀ b ∈ [s.heap.objs.size], s.heap.get? b = none := fun b hb => by rw [List.mem_singleton.mp hb]; exact fresh_get _
  have fl : ∀ b ∈ [s.heap.objs.size], b ∉ led.map (·.1) ∧ b ≠ a.L := fun b hb => by rw [List.mem_singleton.mp hb]; exact hf
  cases ha : x.cps.all (· < 128)
  · refine wpAny_pyIter_wide ha ?_
    refine h s.heap.objs.size _ _ _ _ _ (hl ▸ Walks.strWide (O.room.1 H) _ x t) ⟨_, Heap.get?_push_size _ rfl, rfl, rfl⟩ (fun b o e => Heap.get?_push_of_some _ e) fr (fun i h st b hb vs ht => ?_) fl (fun i h st b hb => by rw [List.mem_singleton.mp hb]; obtain ⟨o, e1, _⟩ := st; exact ⟨o, e1⟩) (fun i h st => by obtain ⟨o, e1, e2, _⟩ := st; exact ⟨o, _, e1, e2, by decide⟩) item
    rw [List.mem_singleton.mp hb] at ht
    obtain ⟨o, e1, e2, _⟩ := st
    obtain ⟨o', e3, e4, _⟩ := ht
    rw [e1] at e3; cases e3; rw [e2] at e4; exact ty_ne e4 (by decide)
  · refine wpAny_pyIter_ascii ha ?_
    refine h s.heap.objs.size _ _ _ _ _ (hl ▸ Walks.strAscii (O.room.1 H) _ x t) ⟨_, Heap.get?_push_size _ rfl, rfl, rfl⟩ (fun b o e => Heap.get?_push_of_some _ e) fr (fun i h st b hb vs ht => ?_) fl (fun i h st b hb => by rw [List.mem_singleton.mp hb]; obtain ⟨o, e1, _⟩ := st; exact ⟨o, e1⟩) (fun i h st => by obtain ⟨o, e1, e2, _⟩ := st; exact ⟨o, _, e1, e2, by decide⟩) item
    rw [List.mem_singleton.mp hb] at ht
    obtain ⟨o, e1, e2, _⟩ := st
    obtain ⟨o', e3, e4, _⟩ := ht
    rw [e1] at e3; cases e3; rw [e2] at e4; exact ty_ne e4 (by decide)
noncomputable def rng (lo : Int) (n : Nat) : List AV := (List.range n).map fun i => .int (lo + (i : Nat))
theorem iter_range {r : Addr} {lo hi : Int} (O : a.Ok) (H : a.hd = true) (h1 : -(2 ^ 62) ≤ lo) (h2 : lo < 2 ^ 62) (h3 : -(2 ^ 62) ≤ hi) (h4 : hi < 2 ^ 62) : IterOf a (.ref r) (rng lo (hi - lo).toNat) [(r, .range lo hi)] loc led := by
  rintro s v Q R rfl h
  obtain ⟨t, u, z, e⟩ := R.objs (r, .range lo hi) (.head _)
  refine wpAny_pyIter_range e (small_one h1 h2 h3 h4) ?_
  have W := Walks.range (prog := PW) (w := a.w) (A := a.A) (O.room.1 H) s.heap.objs.size lo 1 (hi - lo).toNat
  have hlen : (hi - lo).toNat = (rng lo (hi - lo).toNat).length := by simp [rng]
  have hf := R.fresh_led
  refine h s.heap.objs.size [s.heap.objs.size] [s.heap.objs.size] (fun i v => ∃ t, v = .int (lo + i * 1) t) (fun i h => IsRangeIter h s.heap.objs.size (lo + (i : Nat) * 1) (((hi - lo).toNat : Int) - (i : Nat)) 1) _ (by rw [← hlen]; exact W) ?_ (fun b o e => Heap.get?_push_of_some _ e) (fun b hb => ?_) (fun i h st b hb vs ht => ?_) (fun b hb => ?_) (fun i h st b hb => by rw [List.mem_singleton.mp hb]; exact ⟨_, st⟩) (fun i h st => ⟨_, _, st, rfl, by decide⟩) (fun i v h'' hi2 hP tk => ?_)
  · have := Heap.get?_push_size (h := s.heap) (o := { cls := .type "range_iterator", data := .fields #[rawInt lo, rawInt (Builtin.Range.rangeSize lo hi 1), rawInt 1] }) rfl
    rw [rangeSize_nat] at this ⊢
    simpa using this
  · rw [List.mem_singleton.mp hb]; exact fresh_get _
  · rw [List.mem_singleton.mp hb] at ht
    obtain ⟨o', e3, e4, _⟩ := ht
    rw [show h.get? s.heap.objs.size = some _ from st] at e3; cases e3; exact ty_ne e4 (by decide)
  · rw [List.mem_singleton.mp hb]; exact ⟨fun hm => hf.1 (List.mem_cons_of_mem _ hm), hf.2⟩
  · obtain ⟨t, rfl⟩ := hP
    refine ⟨.int (lo + (i : Nat)), ?_, t, by rw [Int.mul_one]⟩
    have hi' : i < (hi - lo).toNat := by rw [hlen]; exact hi2
    unfold rng
    simp [hi']
end

/-! ### loops -/
/-- within a loop -/
noncomputable def Act.loop {sc : Scope} (a : Act sc) (h : Heap) : Act sc := { a with E := notedBy a.M a.A a.env (cameBackBy a.M a.A a.env a.E), h₀ := h, X := fun _ _ => False }

section
variable {sc : Scope} {a : Act sc} {loc : Loc} {led : Led} {s : Shared} {K : KV} {KS : KSt} {KB : KBo} {KL : KLi} {KU : KUn}
theorem Act.Ok.loop (O : a.Ok) {h : Heap} (k : ∀ b o, a.h₀.get? b = some o → h.get? b = some o) : (a.loop h).Ok :=
  ⟨O.kind, O.frs.mono fun L hL => hL.imp id fun p => p.keeps k, O.glob.keeps k, O.room, fun _ _ h => h.elim⟩
theorem RaiseOk.loop {X : Loc → Led → Prop} (Z : RaiseOk a X) {h : Heap} (k : ∀ b o, a.h₀.get? b = some o → h.get? b = some o) : RaiseOk (a.loop h) X := by
  obtain ⟨⟨lo, hal⟩, hfr, Z⟩ := Z
  refine ⟨⟨lo, hal⟩, hfr, ?_⟩
  intro loc led l base e a0 s' T hX
  have hT := T.fr
  rw [show (a.loop h).A = a.A from rfl, hal] at hT; cases hT
  have hFF : s'.heap.FunFrames base (a.env :: lo) := by
    rcases T.fly with ⟨_, _, h, _⟩ | ⟨_, _, h, _⟩ | ⟨_, _, h, _⟩ <;> exact h
  have fin : ∀ s'' : Shared, s''.gens = s'.gens → s''.os = s'.os → s'.heap.UpToSlots s''.heap → Heap.HeldW base (a.env :: lo) e (.ref 58) a0 a.L s''.heap → cameBackBy a.M a.A a.env a.E (.ref e) s'' := by
    intro s'' e1 e2 hup hh
    have tk : TK s'.heap s''.heap := fun b vs ⟨o, eo, hc, n, hd⟩ => by
      obtain ⟨sl, es⟩ := hup b o eo fun ws q => by rw [hd] at q; cases q
      exact ⟨_, es, hc, n, hd⟩
    obtain ⟨m, ns, hloc⟩ := T.ns
    obtain ⟨f1, f2, f3, oe, vs, Tb, oT, ts, he, hcls, hd, h1, hnT, hTe, hTg, hdT, h3⟩ := hh
    unfold cameBackBy
    refine wpAny_bind (wpAny_field he hd h1 ?_)
    rw [if_neg (show ¬ ((Value.ref Tb == Value.none) = true) from by simp)]
    unfold setFlight
    refine wpAny_bind (wpAny_field he hd h1 ?_)
    rw [if_pos (show (Value.ref Tb != Value.none) = true from by simp)]
    have hsz3 : 3 < ts.size := (Array.getElem?_eq_some_iff.mp h3).1
    refine wpAny_setField hTg hdT hsz3 ?_
    have other : ∀ b, b ≠ Tb → (s''.heap.update Tb (Obj.mapFields (·.setIfInBounds 3 (a.env.frame.elim .none fun f => rawInt f)))).get? b = s''.heap.get? b := fun b hb => Heap.get?_update_other _ _ (Ne.symm hb)
    have noRecord : ∀ b o, s''.heap.get? b = some o → (∀ vs, o.data ≠ .fields vs) → b ≠ Tb := fun b o hb hnf q => by
      rw [q, hTg] at hb; injection hb with hb; subst hb; exact hnf ts hdT
    have hup2 : s''.heap.UpToSlots (s''.heap.update Tb (Obj.mapFields (·.setIfInBounds 3 (a.env.frame.elim .none fun f => rawInt f)))) := fun b o hb hn => ⟨o.slots, (other b (noRecord b o hb hn)).trans hb⟩
    have hup3 := hup.trans hup2
    have tk2 : TK s'.heap (s''.heap.update Tb (Obj.mapFields (·.setIfInBounds 3 (a.env.frame.elim .none fun f => rawInt f)))) := fun b vs ⟨o, eo, hc, n, hd⟩ => by
      obtain ⟨sl, es⟩ := hup3 b o eo fun ws q => by rw [hd] at q; cases q
      exact ⟨_, es, hc, n, hd⟩
    refine Z loc led (a.env :: lo) base e a0 _ ⟨hal, ⟨m, hup3.ns ns, fun x av hx => let ⟨v', e', r'⟩ := hloc x av hx; ⟨v', e', r'.mono tk2⟩⟩, T.keys, T.kinds, ?_, T.objs, fun p hp => ⟨(T.apart p hp).1, ?_, (T.apart p hp).2.2⟩, T.nodup, fun b o eb hb => T.base b o (k b o eb) hb, fun b hb o eb => ?_, .inr (.inl ?_), e1.trans T.gens, e2.trans T.os⟩ hX
    · cases q : a.h₀.get? a.L with
      | none => rfl
      | some o =>
        have := T.fresh
        rw [show (a.loop h).h₀ = h from rfl, show (a.loop h).L = a.L from rfl, k _ _ q] at this; cases this
    · cases q : a.h₀.get? p.1 with
      | none => rfl
      | some o =>
        have := (T.apart p hp).2.1
        rw [show (a.loop h).h₀ = h from rfl, k _ _ q] at this; cases this
    · obtain ⟨sl, es⟩ := T.slots b hb o (k b o eb)
      obtain ⟨o2, hg2, hnf⟩ := (hFF.mem hb).2
      rw [es] at hg2; cases hg2
      obtain ⟨sl', es'⟩ := hup3 b _ es hnf
      exact ⟨sl', es'⟩
    · refine ⟨fun b o hbo => (other b fun q => by rw [q, hnT] at hbo; cases hbo).trans (f1 b o hbo), f2, f3.of_keeps fun b o hb hnf => ⟨o, (other b (noRecord b o hb hnf)).trans hb, rfl⟩, ?_⟩
      refine ⟨oe, vs, Tb, _, _, (other e (Ne.symm hTe)).trans he, hcls, hd, h1, hnT, hTe, Heap.get?_update_self _ hTg (Obj.isFreed_of_fields (Obj.data_mapFields hdT _)), Obj.data_mapFields hdT _, ?_⟩
      have hf : a.env.frame = some a.L := hfr
      rw [hf]; simp [hsz3]
  show wpAny a.M a.A (noteFrame (.ref e) a.env) _ _ s'
  have hf : a.env.frame = some a.L := hfr
  rcases T.fly with ⟨n1, n2, n3, oe, vs, n4, n5, n6, n7, n8⟩ | hh | hfl
  · unfold noteFrame
    simp only [hf]
    refine wpAny_bind (wpAny_field n4 n6 n8 ?_)
    rw [if_neg (by decide)]
    refine wpAny_entryW hal n3 hf n4 n1 n2 n6 (Array.getElem?_eq_some_iff.mp n8).1 n7 fun h' hN => ?_
    obtain ⟨k1, k2, k3, k4⟩ := hN
    exact fin { s' with heap := h' } rfl rfl k4 ⟨k1, n2, k2, n5 ▸ k3⟩
  · exact wpAny_noteFrame_againW (L := a.L) hf hh.2.2.2 (fin s' rfl rfl (.refl _) hh)
  · exact wpAny_looks_onW hal hf hfl fun h' hh hup => fin { s' with heap := h' } rfl rfl hup hh

noncomputable abbrev cTurn (J : Loc → Led → Prop) (fin : KSt) : KSt := fun f loc led => match f with
  | .next => Has led (J loc)
  | .cont => Has led (J loc)
  | .brk => fin .next loc led
  | .ret v => fin (.ret v) loc led
/-- behind the loop the hidden part comes back -/
noncomputable abbrev cFin (hid : Led) (KS : KSt) : KSt := fun f loc led => Appd hid led (KS f loc)

/-! ### targets -/
noncomputable def Asn (a : Act sc) (tg : Expr) (av : AV) (loc : Loc) (led : Led) (KU : KUn) : Prop := ∀ s v, Rep a loc led s → Rel s.heap av v → wpAny a.M a.A (assign tg a.env v) (PostU a s.heap KU) a.E s
noncomputable def AsnL (a : Act sc) (ts : List (Value → Sem Unit)) (avs : List AV) (loc : Loc) (led : Led) (KU : KUn) : Prop := ∀ s vs, Rep a loc led s → RelL s.heap avs vs → wpAny a.M a.A (assignInOrder ts vs) (PostU a s.heap KU) a.E s
theorem asn_name {x : Str} {px : Pos} {av : AV} {loc' : Loc} (O : a.Ok) (g : SetL x av loc loc') (k : KU loc' led) : Asn a (.Name x px) av loc led KU :=
  fun _ _ R r => wpAny_assign_Name (EvU_store R O r g fun _ R' t' => ⟨loc', led, k, R', t'⟩)
theorem asnL_nil (k : KU loc led) : AsnL a [] [] loc led KU := fun s vs R _ => assignInOrder_nil ⟨loc, led, k, R, .refl _⟩
theorem asnL_assign {x : Str} {px : Pos} {ts : List (Value → Sem Unit)} {av : AV} {avs : List AV} {loc' : Loc} (O : a.Ok) (g : SetL x av loc loc') (k : AsnL a ts avs loc' led KU) : AsnL a (assign (.Name x px) a.env :: ts) (av :: avs) loc led KU := by
  intro s vs R r
  unfold RelL at r
  obtain ⟨v, q, rfl, r1, r2⟩ := r
  refine assignInOrder_cons (wpAny_assign_Name (EvU_store R O r1 g fun _ R' t' => ?_))
  exact wpAny_mono (k _ q R' (r2.mono t')) (fun _ _ p => p.from t') fun _ _ e => e
theorem asnL_bind {x : Str} {ts : List (Value → Sem Unit)} {av : AV} {avs : List AV} {loc' : Loc} (O : a.Ok) (g : SetL x av loc loc') (k : AsnL a ts avs loc' led KU) : AsnL a ((fun v => bindName a.env x v) :: ts) (av :: avs) loc led KU := by
  intro s vs R r
  unfold RelL at r
  obtain ⟨v, q, rfl, r1, r2⟩ := r
  refine assignInOrder_cons (wpAny_bindName (EvU_store R O r1 g fun _ R' t' => ?_))
  exact wpAny_mono (k _ q R' (r2.mono t')) (fun _ _ p => p.from t') fun _ _ e => e
theorem TK.ext {h h' : Heap} (e : Heap.ExtBut h.objs.size h h') : ∀ b o, h.get? b = some o → h'.get? b = some o := fun b o eo => e b o (Nat.ne_of_lt (Heap.lt_size eo)) eo
theorem asn_tuple {elts : List Expr} {k : Nat} {pos : Pos} {avs : List AV} (O : a.Ok) (H : a.hd = true) (hn : (assignEach elts a.env).length = avs.length) (hst : (assignEach elts a.env).findIdx? (·.1) = none)
    (h : AsnL a ((assignEach elts a.env).map (·.2)) avs loc led KU) : Asn a (.Tuple elts k pos) (.tup avs) loc led KU := by
  intro s v R r
  unfold Rel at r
  obtain ⟨d, vs, rfl, ht, hr⟩ := r
  refine assign_Tuple_tuple (O.room.1 H) ht (by rw [hn]; simp [hr.length]) hst fun h' he => ?_
  have kk := TK.ext he
  have := h _ vs (R.grow kk s.toks s.drawn) (hr.mono (TK.keeps kk))
  exact wpAny_mono this (fun _ _ p => p.from (TK.keeps kk)) fun _ _ e => e
noncomputable abbrev cAsn (a : Act sc) (tg : Expr) (KS : KSt) : KV := fun av loc led => Asn a tg av loc led (cNextU KS)
theorem Ex_AssignTup {elts : List Expr} {k : Nat} {p' pos : Pos} {value : Expr} (hs : swapsWithSole [.Tuple elts k p'] value pos.line a.env = pure false) (hw : swappedStores [.Tuple elts k p'] value a.env = pure none)
    (h : Ev a (eval value a.env) loc led (cAsn a (.Tuple elts k p') KS)) : Ex a (exec (.Assign [.Tuple elts k p'] value pos) a.env) loc led KS := by
  intro s R
  refine PyProof.Rows.Assign_Tuple (wpAny_mono (h s R) (fun v s₁ p => ?_) fun _ _ e => e) hs hw
  obtain ⟨x, l1, d1, k1, R1, t1, r1⟩ := p
  refine wpAny_mono (k1 s₁ v R1 r1) (fun _ s₂ p => ?_) fun _ _ e => e
  obtain ⟨l2, d2, k2, R2, t2⟩ := p
  exact (.inl ⟨.next, l2, d2, k2, R2, t1.trans t2, rfl⟩)
noncomputable def Swap (a : Act sc) (names : List Str) (KS : KSt) (av : AV) (loc : Loc) (led : Led) : Prop :=
  ∃ avs, av = .tup avs ∧ names.length = avs.length ∧ AsnL a (names.reverse.map fun n => fun v => bindName a.env n v) avs.reverse loc led (cNextU KS)
theorem Swap.mk {names : List Str} {avs : List AV} (hn : names.length = avs.length) (h : AsnL a (names.reverse.map fun n => fun v => bindName a.env n v) avs.reverse loc led (cNextU KS)) : Swap a names KS (.tup avs) loc led := ⟨avs, rfl, hn, h⟩
theorem RelL.rev {h : Heap} {xs : List AV} {vs : List Value} (r : RelL h xs vs) : RelL h xs.reverse vs.reverse := by
  induction xs generalizing vs with
  | nil => unfold RelL at r; subst r; exact .nil
  | cons x xs ih =>
    unfold RelL at r
    obtain ⟨v, q, rfl, r1, r2⟩ := r
    rw [List.reverse_cons, List.reverse_cons]
    exact RelL.append (ih r2) (.cons r1 .nil)
theorem Ex_AssignSwap {elts : List Expr} {k : Nat} {p' pos : Pos} {value : Expr} {names : List Str} (O : a.Ok) (H : a.hd = true) (hs : swapsWithSole [.Tuple elts k p'] value pos.line a.env = pure false) (hw : swappedStores [.Tuple elts k p'] value a.env = pure (some names))
    (h : Ev a (eval value a.env) loc led (fun av loc led => Swap a names KS av loc led)) : Ex a (exec (.Assign [.Tuple elts k p'] value pos) a.env) loc led KS := by
  intro s R
  refine Assign_Tuple_swapped (wpAny_mono (h s R) (fun v s₁ p => ?_) fun _ _ e => e) hs hw
  obtain ⟨x, l1, d1, ⟨avs, rfl, hn, k1⟩, R1, t1, r1⟩ := p
  unfold Rel at r1
  obtain ⟨d, vs, rfl, ht, hr⟩ := r1
  have hsz : names.length = (List.toArray vs).size := by rw [hn]; simp [hr.length]
  rw [hsz]
  refine unpackItems_tuple (O.room.1 H) ht fun h' he => ?_
  have kk := TK.ext he
  refine wpAny_mono (k1 _ vs.reverse (R1.grow kk s₁.toks s₁.drawn) (hr.mono (TK.keeps kk)).rev) (fun _ s₂ p => ?_) fun _ _ e => e
  obtain ⟨l2, d2, k2, R2, t2⟩ := p
  exact (.inl ⟨.next, l2, d2, k2, R2, t1.trans ((TK.keeps kk).trans t2), rfl⟩)

/-! ### for -/
inductive ForA (a : Act sc) (tg : Expr) (body : List Stmt) (KS : KSt) (v : AV) (loc : Loc) (led : Led) : Prop
  | intro (its : List AV) (hid led1 : Led) (keep : Bool) (J : Nat → Loc → Led → Prop) (h1 : PickO led hid led1) (h2 : IterOf a v its hid loc led1) (h3 : Has led1 (J 0 loc))
    (h4 : ∀ h i av loc led, (a.loop h).Ok → (∀ X, RaiseOk a X → RaiseOk (a.loop h) X) → its[i]? = some av → J i loc led → Asn (a.loop h) tg av loc led fun loc led => Ex (a.loop h) (execs body (a.loop h).env) loc led (cTurn (J (i + 1)) (cFin (if keep then hid else []) KS)))
    (h5 : ∀ loc led, J its.length loc led → cFin (if keep then hid else []) KS .next loc led)

theorem Rep.hidden (O : a.Ok) (R : Rep a loc led s) : Rep (a.loop (hideAll s.heap (a.L :: led.map (·.1)))) loc led s ∧ (a.loop (hideAll s.heap (a.L :: led.map (·.1)))).Ok ∧ ∀ b o, a.h₀.get? b = some o → (hideAll s.heap (a.L :: led.map (·.1))).get? b = some o := by
  have hk : ∀ b o, a.h₀.get? b = some o → (hideAll s.heap (a.L :: led.map (·.1))).get? b = some o := fun b o e => hideAll_get _ (R.keep b o e) fun hm => by
    rcases List.mem_cons.mp hm with rfl | hm
    · rw [R.fresh] at e; cases e
    · obtain ⟨p, hp, rfl⟩ := List.mem_map.mp hm
      exact gone e (R.apart p hp).2.1
  refine ⟨⟨R.gens, R.os, fun b o e => of_hideAll _ e, R.ns, R.keys, R.kinds, R.objs, fun p hp => ⟨(R.apart p hp).1, hideAll_none _ (.tail _ (List.mem_map_of_mem hp)), (R.apart p hp).2.2⟩, R.nodup, hideAll_none _ (.head _)⟩, O.loop hk, hk⟩
/-- back from a turn -/
theorem Rep.shown {h : Heap} {loc' : Loc} {led' : Led} {s' : Shared} (hk : ∀ b o, a.h₀.get? b = some o → h.get? b = some o) (R : Rep (a.loop h) loc' led' s') : Rep a loc' led' s' :=
  ⟨R.gens, R.os, fun b o e => R.keep b o (hk b o e), R.ns, R.keys, R.kinds, R.objs, fun p hp => ⟨(R.apart p hp).1, (by
    cases q : a.h₀.get? p.1 with
    | none => rfl
    | some o =>
      have := (R.apart p hp).2.1
      rw [show (a.loop h).h₀ = h from rfl, hk _ _ q] at this
      cases this), (R.apart p hp).2.2⟩, R.nodup, by
    cases q : a.h₀.get? a.L with
    | none => rfl
    | some o =>
      have := R.fresh
      rw [show (a.loop h).h₀ = h from rfl, show (a.loop h).L = a.L from rfl, hk _ _ q] at this; cases this⟩

theorem codeAny_forAny {prog : Program} {w : World} {A : Around} {R : Result → Shared → Prop} {target : Expr} {it : Value} {body orelse : List Stmt} {env : Env} {s : Shared} (I : Nat → Shared → Prop)
    (turn : ∀ n s, I n s → wpAny (model prog w) A (pyNext it) (fun r s₁ => match r with
      | none => wpAny (model prog w) A (execs orelse env) (fun f s₃ => R (.ok f) s₃) (notedBy (model prog w) A env fun e s' => R (.error e) s') s₁
      | some v => wpAny (model prog w) A (letOwnedTupleGo target it v) (fun _ s₁' => wpAny (model prog w) A (assign target env v) (fun _ s₂ => wpAny (model prog w) A (execs body env) (fun f s₃ => match f with
          | .next | .cont => ∃ m, m < n ∧ I m s₃
          | .brk => R (.ok .next) s₃
          | .ret v => R (.ok (.ret v)) s₃) (notedBy (model prog w) A env fun e s' => R (.error e) s') s₂) (notedBy (model prog w) A env fun e s' => R (.error e) s') s₁') (notedBy (model prog w) A env fun e s' => R (.error e) s') s₁) (notedBy (model prog w) A env fun e s' => R (.error e) s') s)
    (n : Nat) (h : I n s) : codeAny (model prog w) A (.forLoop target it body orelse env) R s := by
  refine codeAny_loop' rfl I (fun n s hI => ?_) n h
  show wpAny _ _ ((forTurn target it body orelse env).onRaise (fun x => do noteFrame x env; theTreesLotGoes x)) _ _ s
  refine wpAny_noted ?_
  simp only [forTurn]
  refine wpAny_bind (wpAny_standAt (wpAny_bind (wpAny_onRaise (wpAny_mono (turn n s hI) (fun r s₁ h₁ => ?_) fun _ _ h' => wpAny_standAt h'))))
  cases r with
  | none => exact wpAny_pure (.inr ⟨rfl, codeAny_block h₁⟩)
  | some v =>
    refine wpAny_bind (wpAny_mono h₁ (fun _ s₁' h₁' => ?_) fun _ _ h' => h')
    refine wpAny_bind (wpAny_mono h₁' (fun _ s₂ h₂ => wpAny_bind (wpAny_mono h₂ (fun f s₃ h₃ => ?_) fun _ _ h' => h')) fun _ _ h' => h')
    cases f with
    | next => exact wpAny_pure (.inl ⟨rfl, h₃⟩)
    | cont => exact wpAny_pure (.inl ⟨rfl, h₃⟩)
    | brk => exact wpAny_pure h₃
    | ret v => exact wpAny_pure h₃

theorem letGo_quiet {M : Model} {A : Around} {E : Value → Shared → Prop} {s : Shared} {tg : Expr} {I : Addr} {v : Value} {Q : Unit → Shared → Prop} (hI : LetGo s.heap I) (hQ : Q () s) : wpAny M A (letOwnedTupleGo tg (.ref I) v) Q E s := by
  obtain ⟨o, t, ho, hc, ht⟩ := hI
  have key : ∀ {elts : List Expr} {k : Nat} {p : Pos} {r : Addr}, wpAny M A (letOwnedTupleGo (.Tuple elts k p) (.ref I) (.ref r)) Q E s := by
    intro elts k p r
    unfold letOwnedTupleGo
    refine wpAny_bind (wpAny_load ho ?_)
    rw [hc]
    cases hd : o.data with
    | fields vs =>
      dsimp only
      rw [if_neg (by rw [ht, Bool.false_and]; decide)]
      exact wpAny_pure hQ
    | _ => exact wpAny_pure hQ
  have key2 : ∀ {elts : List Expr} {p : Pos} {r : Addr}, wpAny M A (letOwnedTupleGo (.List elts p) (.ref I) (.ref r)) Q E s := by
    intro elts p r
    unfold letOwnedTupleGo
    refine wpAny_bind (wpAny_load ho ?_)
    rw [hc]
    cases hd : o.data with
    | fields vs =>
      dsimp only
      rw [if_neg (by rw [ht, Bool.false_and]; decide)]
      exact wpAny_pure hQ
    | _ => exact wpAny_pure hQ
  cases tg with
  | Tuple elts k p =>
    cases v with
    | ref r => exact key
    | _ => exact wpAny_pure hQ
  | List elts p =>
    cases v with
    | ref r => exact key2
    | _ => exact wpAny_pure hQ
  | _ => exact wpAny_pure hQ

inductive FInv {sc : Scope} (a : Act sc) (its : List AV) (J : Nat → Loc → Led → Prop) (St : Nat → Heap → Prop) (fp : List Addr) (hid : Led) (h : Heap) (n : Nat) (s : Shared) : Prop
  | intro (i : Nat) (loc : Loc) (led : Led) (hin : i + n = its.length) (hJ : J i loc led) (R : Rep a loc led s) (hSt : St i s.heap) (hfp : ∀ b ∈ fp, b ∉ led.map (·.1) ∧ b ≠ a.L) (t : TK h s.heap)
    (hh : ∀ p ∈ hid, ∀ o, h.get? p.1 = some o → s.heap.get? p.1 = some o) (hn : ∀ p ∈ hid, p.1 ∉ led.map (·.1))
theorem Ex_For {tg : Expr} {pos : Pos} {iter : Expr} {body : List Stmt} (O : a.Ok) (hs : ∀ v, foldedSetIterable iter a.env v = pure v)
    (h : Ev a (eval iter a.env) loc led (fun v loc led => ForA a tg body KS v loc led)) : Ex a (exec (.For tg iter body [] pos) a.env) loc led KS := by
  intro s R
  refine wpAny_For (wpAny_mono (h s R) (fun v s₁ p => ?_) fun _ _ e => e) hs
  obtain ⟨xv, l1, d1, ⟨its, hid, led0, kp, J, hpick, hit, hJ, turn, done⟩, R1, t1, r1⟩ := p
  obtain ⟨led1, rest, hp0, hJ⟩ := hJ
  have hsub0 : ∀ p ∈ led1, p ∈ led0 := fun p hp => hp0.perm.symm.subset (List.mem_append_left _ hp)
  have R1' : Rep a l1 (hid ++ led0) s₁ := R1.perm hpick.perm
  refine hit s₁ v _ R1' r1 fun I fp wr P St h' W h0 hk hwr hnt hfp halive hgo hP => ?_
  have hkeep' : ∀ p ∈ (if kp then hid else []), p ∈ hid := by
    intro p hp; cases kp with
    | true => exact hp
    | false => cases hp
  have nd1 := R1'.nodup
  rw [List.map_append, List.nodup_append] at nd1
  -- the start of a turn
  let Inv : Nat → Shared → Prop := FInv a its J St fp hid s₁.heap
  have hsubm : ∀ b, b ∈ led1.map (·.1) → b ∈ led0.map (·.1) := fun b hb => by
    obtain ⟨p, hp, rfl⟩ := List.mem_map.mp hb
    exact List.mem_map_of_mem (hsub0 p hp)
  have hnh : ∀ p ∈ hid, p.1 ∉ led1.map (·.1) := fun p hp hm => nd1.2.2 _ (List.mem_map_of_mem hp) _ (hsubm _ hm) rfl
  have Rs : Rep a l1 led1 { s₁ with heap := h' } := (((R1'.right).grow hk s₁.toks s₁.drawn).perm hp0.perm).left
  have back : ∀ {loc : Loc} {led : Led} {s₂ : Shared}, Rep a loc led s₂ → TK s₁.heap s₂.heap → (∀ p ∈ hid, ∀ o, s₁.heap.get? p.1 = some o → s₂.heap.get? p.1 = some o) → (∀ p ∈ hid, p.1 ∉ led.map (·.1)) → Rep a loc ((if kp then hid else []) ++ led) s₂ := by
    intro loc led s₂ R2 t2 hh hn
    refine ⟨R2.gens, R2.os, R2.keep, R2.ns, R2.keys, R2.kinds, fun p hp => ?_, fun p hp => ?_, ?_, R2.fresh⟩
    · rcases List.mem_append.mp hp with hp | hp
      · exact (R1'.objs p (List.mem_append_left _ (hkeep' p hp))).keep t2 (hh p (hkeep' p hp))
      · exact R2.objs p hp
    · rcases List.mem_append.mp hp with hp | hp
      · exact R1'.apart p (List.mem_append_left _ (hkeep' p hp))
      · exact R2.apart p hp
    · rw [List.map_append, List.nodup_append]
      refine ⟨?_, R2.nodup, fun x hx y hy e => ?_⟩
      · cases kp with
        | true => exact nd1.1
        | false => exact List.nodup_nil
      · subst e
        obtain ⟨p, hp, rfl⟩ := List.mem_map.mp hx
        exact hn p (hkeep' p hp) hy
  refine codeAny_forAny Inv (fun n s₂ inv => ?_) its.length ⟨0, l1, led1, by omega, hJ, Rs, h0, fun b hb => ⟨fun hm => (hfp b hb).1 (hsubm b hm), (hfp b hb).2⟩, TK.keeps hk, fun p _ o e => hk _ o e, hnh⟩
  obtain ⟨i, loc2, led2, hin, hJ2, R2, hSt, hfp2, t2, hh2, hn2⟩ := inv
  -- the iterator moves
  have moved : ∀ {h₃ : Heap} {tk₃ : Nat}, (∀ b o, b ∉ wr → s₂.heap.get? b = some o → h₃.get? b = some o) → Rep a loc2 led2 { s₂ with heap := h₃, toks := tk₃ } ∧ TK s₂.heap h₃ ∧ (∀ p ∈ hid, ∀ o, s₁.heap.get? p.1 = some o → h₃.get? p.1 = some o) := by
    intro h₃ tk₃ hk3
    have tkw : TK s₂.heap h₃ := fun b vs ht => by
      by_cases hm : b ∈ wr
      · exact absurd ht (hnt i _ hSt b hm vs)
      · obtain ⟨o, e, r⟩ := ht
        exact ⟨o, hk3 b o hm e, r⟩
    have hwL : a.L ∉ wr := fun hm => (hfp2 _ (W.sub _ hm)).2 rfl
    have hwl : ∀ p ∈ led2, p.1 ∉ wr := fun p hp hm => (hfp2 _ (W.sub _ hm)).1 (List.mem_map_of_mem hp)
    have old : ∀ {b o}, s₁.heap.get? b = some o → b ∉ wr := fun {b o} e hm => by
      have := hwr b hm
      rw [e] at this; cases this
    obtain ⟨m, ns, l⟩ := R2.ns
    refine ⟨⟨R2.gens, R2.os, fun b o e => hk3 b o (old (R1.keep b o e)) (R2.keep b o e), ⟨m, ?_, fun x av hx => let ⟨v, e, r⟩ := l x av hx; ⟨v, e, r.mono tkw⟩⟩, R2.keys, R2.kinds,
      fun p hp => (R2.objs p hp).keep tkw fun o e => hk3 _ o (hwl p hp) e, R2.apart, R2.nodup, R2.fresh⟩, tkw, fun p hp o e => hk3 _ o (old e) (hh2 p hp o e)⟩
    obtain ⟨o, es, ep, e, q⟩ := ns
    exact ⟨o, es, ep, hk3 _ _ hwL e, q⟩
  by_cases hi : i < its.length
  · refine W.item i s₂ _ _ hi hSt fun u h₃ tk₃ hPu hSt3 hk3 => ?_
    obtain ⟨R3, t3, hh3⟩ := moved (tk₃ := tk₃) hk3
    obtain ⟨av, hav, rav⟩ := hP i u h₃ hi hPu (fun b vs ht => t3 b vs (t2 b vs ht))
    obtain ⟨R4, O4, hk4⟩ := R3.hidden O
    refine letGo_quiet (hgo _ _ hSt3) ?_
    refine wpAny_mono (turn _ i av loc2 led2 O4 (fun X Z => Z.loop hk4) hav hJ2 _ u R4 rav) (fun _ s₅ p => ?_) fun _ _ e => e
    obtain ⟨loc5, led5, ex5, R5, t5⟩ := p
    refine wpAny_mono (ex5 _ R5) (fun f s₆ p => ?_) fun _ _ e => e
    rcases p with ⟨af, loc6, led6, k6, R6, t6, r6⟩ | hx
    rotate_left
    · exact hx.elim
    have R7 := Rep.shown hk4 R6
    have t7 : TK s₁.heap s₆.heap := ((t2.trans t3).trans t5).trans t6
    have shown : ∀ {b : Addr} {o : Obj}, h₃.get? b = some o → b ≠ a.L → b ∉ led2.map (·.1) → s₆.heap.get? b = some o := fun {b o} e h1 h2 => R6.keep b o (hideAll_get _ e fun hm => by
      rcases List.mem_cons.mp hm with e | hm
      · exact h1 e
      · exact h2 hm)
    have hh7 : ∀ p ∈ hid, ∀ o, s₁.heap.get? p.1 = some o → s₆.heap.get? p.1 = some o := fun p hp o e => shown (hh3 p hp o e) (R1'.apart p (List.mem_append_left _ hp)).1 (hn2 p hp)
    have off : ∀ {b : Addr} {o : Obj}, h₃.get? b = some o → b ≠ a.L → b ∉ led2.map (·.1) → b ∉ led6.map (·.1) := fun {b o} e h1 h2 hm => by
      obtain ⟨p, hp, rfl⟩ := List.mem_map.mp hm
      have := (R6.apart p hp).2.1
      rw [show (a.loop (hideAll h₃ (a.L :: led2.map (·.1)))).h₀ = hideAll h₃ (a.L :: led2.map (·.1)) from rfl, hideAll_get _ e (fun hm => by
        rcases List.mem_cons.mp hm with e | hm
        · exact h1 e
        · exact h2 hm)] at this
      cases this
    have hn7 : ∀ p ∈ hid, p.1 ∉ led6.map (·.1) := fun p hp => by
      obtain ⟨o, eo, _⟩ := (R1'.objs p (List.mem_append_left _ hp)).there
      exact off (hh3 p hp o eo) (R1'.apart p (List.mem_append_left _ hp)).1 (hn2 p hp)
    have go : Has led6 (J (i + 1) loc6) → ∃ m, m < n ∧ Inv m s₆ := fun k => by
      obtain ⟨led7, rest7, hp7, k⟩ := k
      have hs7 : ∀ b, b ∈ led7.map (·.1) → b ∈ led6.map (·.1) := fun b hb => by
        obtain ⟨p, hp, rfl⟩ := List.mem_map.mp hb
        exact List.mem_map_of_mem (hp7.perm.symm.subset (List.mem_append_left _ hp))
      refine ⟨n - 1, by omega, i + 1, loc6, led7, by omega, k, (R7.perm hp7.perm).left, ?_, fun b hb => ⟨fun hm => ?_, (hfp2 b hb).2⟩, t7, hh7, fun p hp hm => hn7 p hp (hs7 _ hm)⟩
      · exact W.frame (i + 1) h₃ s₆.heap hSt3 fun b hb o e => shown e (hfp2 b hb).2 (hfp2 b hb).1
      · obtain ⟨o, eo⟩ := halive _ _ hSt3 b hb
        exact off eo (hfp2 b hb).2 (hfp2 b hb).1 (hs7 _ hm)
    cases af with
    | next => cases r6; exact go k6
    | cont => cases r6; exact go k6
    | brk => cases r6; exact (.inl ⟨.next, loc6, _, k6.out, back R7 t7 hh7 hn7, t1.trans t7, rfl⟩)
    | ret x => obtain ⟨v, rfl, r⟩ := r6; exact (.inl ⟨.ret x, loc6, _, k6.out, back R7 t7 hh7 hn7, t1.trans t7, v, rfl, r⟩)
  · obtain rfl : i = its.length := by omega
    refine W.done s₂ _ _ hSt fun h₃ tk₃ hk3 => ?_
    obtain ⟨R3, t3, hh3⟩ := moved (tk₃ := tk₃) hk3
    exact wpAny_execs_nil (.inl ⟨.next, loc2, _, (done loc2 led2 hJ2).out, back R3 (t2.trans t3) hh3 hn2, t1.trans (t2.trans t3), rfl⟩)

/-! ### while -/
noncomputable abbrev cWTest (a a' : Act sc) (body : List Stmt) (J : Loc → Led → Prop) (KS : KSt) : KBo := fun b loc led => Two b (Ex a' (execs body a'.env) loc led (cTurn J KS)) (KS .next loc led)
/-- J n: before a turn, at most n turns to go -/
theorem Ex_While {test : Expr} {body : List Stmt} {pos : Pos} (O : a.Ok) (J : Nat → Loc → Led → Prop) (n₀ : Nat) (h0 : Has led (J n₀ loc))
    (turn : ∀ h n loc led, (a.loop h).Ok → (∀ X, RaiseOk a X → RaiseOk (a.loop h) X) → J n loc led → EvB (a.loop h) (isTrue test (a.loop h).env (eval test (a.loop h).env)) loc led (cWTest a (a.loop h) body (fun loc led => ∃ m, m < n ∧ J m loc led) KS)) :
    Ex a (exec (.While test body [] pos) a.env) loc led KS := by
  intro s R
  refine wpAny_While ?_
  let Inv : Nat → Shared → Prop := fun n s₂ => ∃ loc led, J n loc led ∧ Rep a loc led s₂ ∧ TK s.heap s₂.heap
  obtain ⟨led0, hJ0, R0⟩ := R.has h0
  refine codeAny_whileLoop Inv (fun n s₂ inv => ?_) n₀ ⟨loc, led0, hJ0, R0, .refl _⟩
  obtain ⟨loc2, led2, hJ2, R2, t2⟩ := inv
  obtain ⟨R4, O4, hk4⟩ := R2.hidden O
  refine wpAny_mono (turn _ n loc2 led2 O4 (fun X Z => Z.loop hk4) hJ2 s₂ R4) (fun b s₃ p => ?_) fun _ _ e => e
  obtain ⟨loc3, led3, k3, R3, t3⟩ := p
  cases b with
  | false =>
    rw [if_neg (by decide)]
    exact wpAny_execs_nil (.inl ⟨.next, loc3, led3, k3.2 rfl, Rep.shown hk4 R3, t2.trans t3, rfl⟩)
  | true =>
    rw [if_pos rfl]
    refine wpAny_mono (k3.1 rfl s₃ R3) (fun f s₆ p => ?_) fun _ _ e => e
    rcases p with ⟨af, loc6, led6, k6, R6, t6, r6⟩ | hx
    rotate_left
    · exact hx.elim
    have R7 := Rep.shown hk4 R6
    have t7 := (t2.trans t3).trans t6
    have go : Has led6 (fun led => ∃ m, m < n ∧ J m loc6 led) → ∃ m, m < n ∧ Inv m s₆ := fun k => by
      obtain ⟨led7, ⟨m, hm, k⟩, R8⟩ := R7.has k
      exact ⟨m, hm, loc6, led7, k, R8, t7⟩
    cases af with
    | next => cases r6; exact go k6
    | cont => cases r6; exact go k6
    | brk => cases r6; exact (.inl ⟨.next, loc6, led6, k6, R7, t7, rfl⟩)
    | ret x => obtain ⟨v, rfl, r⟩ := r6; exact (.inl ⟨.ret x, loc6, led6, k6, R7, t7, v, rfl, r⟩)
end

end

section
open PySem PySem.W PyProof.Rows

noncomputable def env0 (sc : Scope) : Env := { scope := sc, locals := 0, globals := 0, cells := [], qual := Str.empty, func := none, code := .none, frame := none, builtins := 0 }
/-- the scope of a comprehension within sc -/
noncomputable def relabS (scope sc : Scope) : Scope := relabel scope (env0 sc)

section
variable {sc : Scope} {a : Act sc} {loc : Loc} {led : Led} {s : Shared} {K : KV} {KS : KSt} {KB : KBo} {KL : KLi} {KU : KUn}

/-! ### cells -/
theorem Ev_cell {x : Str} {pos : Pos} {c : Addr} {av : AV} (O : a.Ok) (hx : (decide (sc.names.lookup x = some .cell) && !(x == ("__debug__" : Str))) = true) (hc : a.cl.lookup x = some c) (g : GetO c (.cell (some av)) led) (k : K av loc led) :
    Ev a (eval (.Name x pos) a.env) loc led K := by
  intro s R
  simp only [Bool.and_eq_true, decide_eq_true_eq, Bool.not_eq_true'] at hx
  obtain ⟨v, hv, r⟩ := R.objs _ g.mem
  exact wpAny_Name (wpAny_loadName_cell (env := a.env) O.kind hx.1 hc hv (.here k R r)) hx.2
theorem cell_set {x : Str} {c : Addr} {o : Option AV} {av : AV} {v : Value} {led' : Led} (O : a.Ok) (hx : sc.names.lookup x = some .cell) (hc : a.cl.lookup x = some c) (R : Rep a loc led s) (r : Rel s.heap av v) (g : GetO c (.cell o) led) (g' : SetO c (.cell (some av)) led led')
    {Q : Unit → Shared → Prop} (h : ∀ h', Rep a loc led' { s with heap := h' } → TK s.heap h' → Q () { s with heap := h' }) : wpAny a.M a.A (storeName a.env x v) Q a.E s := by
  have : ∃ v₀, s.heap.IsCell c v₀ := by
    have := R.objs _ g.mem
    cases o with
    | none => exact this
    | some y => obtain ⟨v, hv, _⟩ := this; exact ⟨_, hv⟩
  obtain ⟨v₀, hv⟩ := this
  refine wpAny_storeName_cell (env := a.env) O.kind hx hc hv fun h' hc' hs => ?_
  have tk : TK s.heap h' := TK.but hs (cell_tup hv)
  obtain ⟨R', t'⟩ := R.change g' (tk := s.toks) hs ⟨v, hc', r.mono tk⟩
  exact h h' R' t'
theorem Ex_AssignCell {x : Str} {p' pos : Pos} {value : Expr} {c : Addr} (O : a.Ok) (hx : sc.names.lookup x = some .cell) (hc : a.cl.lookup x = some c) (hs : swapsWith value (some (.Name x p')) pos.line a.env = pure false)
    (h : Ev a (eval value a.env) loc led (fun av loc led => ∃ o led', GetO c (.cell o) led ∧ SetO c (.cell (some av)) led led' ∧ KS .next loc led')) : Ex a (exec (.Assign [.Name x p'] value pos) a.env) loc led KS := by
  intro s R
  refine wpAny_Assign_Name (wpAny_mono (h s R) (fun v s₁ p => ?_) fun _ _ e => e) hs
  obtain ⟨av, l1, d1, ⟨o, led', g, g', k1⟩, R1, t1, r1⟩ := p
  exact cell_set O hx hc R1 r1 g g' fun h' R' t' => (.inl ⟨.next, l1, led', k1, R', t1.trans t', rfl⟩)

/-! ### what a comprehension closes over -/
theorem closure_go {env : Env} {ad : Str → Addr} (f : Str × NameKind → List (Str × Addr) → Sem (ForInStep (List (Str × Addr))))
    (hf : ∀ n k cs, f (n, k) cs = if (k == .free) = true then (do let c ← cellOf env n; pure (.yield ((n, c) :: cs))) else pure (.yield cs)) :
    ∀ (names : List (Str × NameKind)) (cs : List (Str × Addr)), (∀ x ∈ names, x.2 = .free → env.cells.lookup x.1 = some (ad x.1)) →
    forIn names cs f = pure (((names.filter (·.2 == .free)).map fun x => (x.1, ad x.1)).reverse ++ cs)
  | [], cs, _ => by simp
  | (n, k) :: r, cs, h => by
    rw [List.forIn_cons, hf]
    by_cases hk : k = .free
    · subst hk
      have e : cellOf env n = pure (ad n) := by
        unfold cellOf
        rw [h (n, .free) (.head _) rfl]
      have e0 : (NameKind.free == NameKind.free) = true := rfl
      rw [if_pos e0, e]
      have := closure_go (ad := ad) f hf r ((n, ad n) :: cs) fun x hx => h x (.tail _ hx)
      simp only [pure_bind]
      rw [this]
      simp
    · have hb : (k == NameKind.free) = false := by simpa using hk
      rw [hb]
      have := closure_go (ad := ad) f hf r cs fun x hx => h x (.tail _ hx)
      simp only [Bool.false_eq_true, if_false, pure_bind]
      rw [this]
      simp [hb]
noncomputable def closureOf (scope : Scope) (ad : Str → Addr) : List (Str × Addr) := ((scope.names.filter (·.2 == .free)).map fun x => (x.1, ad x.1)).reverse
theorem closure_is {scope : Scope} {env : Env} {ad : Str → Addr} (h : ∀ x ∈ (scope.names.filter (·.2 == .free)).map (·.1), env.cells.lookup x = some (ad x)) : closureFor scope env = pure (closureOf scope ad) := by
  unfold closureFor
  simp only [pure_bind, bind_pure]
  refine (closure_go (ad := ad) _ (fun n k cs => by
    cases hk : k == NameKind.free <;> simp) scope.names [] (fun x hx hf => h x.1 (List.mem_map_of_mem (List.mem_filter.mpr ⟨hx, by simp [hf]⟩)))).trans (by simp [closureOf])
theorem closure_look {ad : Str → Addr} {x : Str} : ∀ {l : List (Str × Addr)}, (∀ p ∈ l, p.2 = ad p.1) → x ∈ l.map (·.1) → l.lookup x = some (ad x)
  | p :: r, h, hm => by
    rw [List.lookup_cons]
    by_cases e : x = p.1
    · subst e
      simp [h p (.head _)]
    · rw [beq_eq_false_iff_ne.mpr e]
      refine closure_look (fun q hq => h q (.tail _ hq)) ?_
      rcases List.mem_cons.mp hm with e' | hm
      · exact absurd e' e
      · exact hm
theorem closureOf_look {scope : Scope} {ad : Str → Addr} {x : Str} (h : x ∈ (scope.names.filter (·.2 == .free)).map (·.1)) : (closureOf scope ad).lookup x = some (ad x) := by
  refine closure_look (fun p hp => ?_) ?_
  · unfold closureOf at hp
    obtain ⟨q, hq, rfl⟩ := List.mem_map.mp (List.mem_reverse.mp hp)
    rfl
  · unfold closureOf
    rw [List.map_reverse, List.mem_reverse, List.map_map]
    exact h

/-! ### tests of a comprehension -/
noncomputable def CT (a : Act sc) (ifs : List Expr) (loc : Loc) (led : Led) (KB : KBo) : Prop := ∀ s, Rep a loc led s →
  wpAny a.M a.A (forIn ifs true fun c r => if r = true then do let ok ← isTrue c a.env (eval c a.env); pure (ForInStep.yield ok) else pure (ForInStep.yield r)) (PostB a s.heap KB) a.E s
theorem ct_nil (h : KB true loc led) : CT a [] loc led KB := fun _ R => wpAny_tests_nil ⟨loc, led, h, R, .refl _⟩
theorem ct_one {c : Expr} (h : EvB a (isTrue c a.env (eval c a.env)) loc led KB) : CT a [c] loc led KB := fun s R => wpAny_tests_one (h s R)

theorem codeAny_compAny {prog : Program} {w : World} {A : Around} {R : Result → Shared → Prop} {s : Shared} {elt target iter : Expr} {ifs : List Expr} {scope : Scope} {pos : Pos} {it acc : Value} {env : Env} (I : Nat → Shared → Prop)
    (turn : ∀ n s, I n s → wpAny (model prog w) A (pyNext it) (fun r s₁ => match r with
      | none => R (.ok .next) s₁
      | some v => wpAny (model prog w) A (letOwnedTupleGo target it v) (fun _ s₁' => wpAny (model prog w) A (assign target env v) (fun _ s₂ =>
          wpAny (model prog w) A (forIn ifs true fun c r => if r = true then do let ok ← isTrue c env (eval c env); pure (ForInStep.yield ok) else pure (ForInStep.yield r)) (fun ok s₃ =>
            if ok = true then wpAny (model prog w) A (eval elt env) (fun x s₄ =>
              wpAny (model prog w) A (call (.builtin "list.append") [acc, x]) (fun _ s₅ => ∃ m, m < n ∧ I m s₅) (notedBy (model prog w) A env fun e s' => R (.error e) s') s₄) (notedBy (model prog w) A env fun e s' => R (.error e) s') s₃
            else ∃ m, m < n ∧ I m s₃) (notedBy (model prog w) A env fun e s' => R (.error e) s') s₂) (notedBy (model prog w) A env fun e s' => R (.error e) s') s₁') (notedBy (model prog w) A env fun e s' => R (.error e) s') s₁) (notedBy (model prog w) A env fun e s' => R (.error e) s') s)
    (n : Nat) (h : I n s) :
    codeAny (model prog w) A (.compLoop (.ListComp elt [⟨target, iter, ifs, 0⟩] scope pos) 0 it acc env) R s := by
  refine codeAny_loop rfl I (fun n s hI => ?_) n h
  show wpAny _ A ((compTurn (.ListComp elt [⟨target, iter, ifs, 0⟩] scope pos) 0 it acc env).onRaise (fun x => do noteFrame x env; theTreesLotGoes x)) _ _ s
  refine wpAny_noted ?_
  rw [compTurn_list]
  refine wpAny_bind (wpAny_standAt (wpAny_bind (wpAny_mono (turn n s hI) (fun r s₁ h₁ => ?_) fun _ _ h' => h')))
  cases r with
  | none => exact wpAny_pure h₁
  | some v =>
    refine wpAny_bind (wpAny_mono h₁ (fun _ s₁' h₁' => ?_) fun _ _ h' => h')
    refine wpAny_bind (wpAny_mono h₁' (fun _ s₂ h₂ => wpAny_bind (wpAny_mono h₂ (fun ok s₃ h₃ => ?_) fun _ _ h' => h')) fun _ _ h' => h')
    cases ok with
    | false => exact wpAny_pure ⟨rfl, h₃⟩
    | true =>
      exact wpAny_bind (wpAny_bind (wpAny_mono h₃ (fun x s₄ h₄ => wpAny_bind (wpAny_mono h₄ (fun _ s₅ h₅ => wpAny_pure (wpAny_pure ⟨rfl, h₅⟩)) fun _ _ h' => h')) fun _ _ h' => h'))

/-! ### comprehensions -/
/-- within a comprehension -/
noncomputable def Act.comp (a : Act sc) (scope : Scope) (cl : List (Str × Addr)) (C : Addr) (E : Value → Shared → Prop) (h : Heap) : Act (relabS scope sc) :=
  { w := a.w, A := a.A, E, qual := a.qual, L := C, cl, fn := none, cd := a.cd, fr := a.fr, h₀ := h, gens := a.gens, os := a.os, mg := a.mg, mb := a.mb, room := a.room, hd := a.hd, X := fun _ _ => False }
theorem comp_env {scope : Scope} {cl : List (Str × Addr)} {C : Addr} {E : Value → Shared → Prop} {h : Heap} : (a.comp scope cl C E h).env = compEnvC scope cl C a.env := rfl

noncomputable def emptyLoc (xs : List Str) : Loc := xs.map fun x => (x, none)

inductive CompA (a : Act sc) (scope : Scope) (tg elt : Expr) (ifs : List Expr) (ad : Str → Addr) (xs : List Str) (K : List AV → Loc → Led → Prop) (v : AV) (loc : Loc) (led : Led) : Prop
  | intro (its : List AV) (hid led1 : Led) (keep : Bool) (J : Nat → List AV → Led → Prop) (h1 : PickO led hid led1) (hz : its.length ≤ 1000000) (h2 : IterOf a v its hid loc led1) (h3 : Has led1 (J 0 []))
    (h4 : ∀ (c : Act (relabS scope sc)) i av acc led, c.Ok → c.room = a.room → c.hd = a.hd → (∀ x ∈ (scope.names.filter (·.2 == .free)).map (·.1), c.cl.lookup x = some (ad x)) → its[i]? = some av → J i acc led →
      Asn c tg av (emptyLoc xs) led fun cloc led => CT c ifs cloc led fun ok cloc led => Two ok (Ev c (eval elt c.env) cloc led fun y _ led => Has led (J (i + 1) (acc ++ [y]))) (Has led (J (i + 1) acc)))
    (h5 : ∀ acc led, J its.length acc led → Appd (if keep then hid else []) led (K acc loc))

/-- what stands when the loop is through -/
structure CompEnd (a : Act sc) (loc : Loc) (led : Led) (D C : Addr) (acc : List AV) (s : Shared) : Prop where
  rep : Rep a loc ((D, .list acc) :: led) s
  ns : ∃ m, s.heap.Ns C m
  out : C ≠ D ∧ C ≠ a.L ∧ a.h₀.get? C = none ∧ ∀ p ∈ led, p.1 ≠ C

inductive CInv {sc : Scope} (a : Act sc) (loc : Loc) (its : List AV) (J : Nat → List AV → Led → Prop) (C D : Addr) (St : Nat → Heap → Prop) (fp : List Addr) (hid : Led) (h : Heap) (n : Nat) (s : Shared) : Prop
  | intro (i : Nat) (acc : List AV) (led : Led) (hin : i + n = its.length) (hJ : J i acc led) (R : Rep a loc led s) (hC : ∃ m, s.heap.Ns C m) (hD : ∃ vs n, s.heap.get? D = some (listOf (List.toArray vs) n) ∧ RelL s.heap acc vs) (hacc : acc.length ≤ i)
    (hDl : D ∉ led.map (·.1)) (hCl : C ∉ led.map (·.1)) (hSt : St i s.heap) (hfp : ∀ b ∈ fp, b ∉ led.map (·.1) ∧ b ≠ a.L) (t : TK h s.heap)
    (hh : ∀ p ∈ hid, ∀ o, h.get? p.1 = some o → s.heap.get? p.1 = some o) (hn : ∀ p ∈ hid, p.1 ∉ led.map (·.1))
theorem comp_core {v : AV} {u : Value} {scope : Scope} {tg elt iter : Expr} {ifs : List Expr} {pos : Pos} {ad : Str → Addr} {xs : List Str} {K : List AV → Loc → Led → Prop} {RR : Value → Addr → Result → Shared → Prop} (O : a.Ok)
    (hcell : ∀ y ∈ scope.names, y.2 ≠ .cell) (hkind : scope.kind = .function) (hxs : xs.Nodup) (hxl : ∀ x ∈ xs, (relabS scope sc).names.lookup x = some .local ∧ (x == ("__debug__" : Str)) = false)
    (R0 : Rep a loc led s) (r0 : Rel s.heap v u) (h : CompA a scope tg elt ifs ad xs K v loc led)
    (hRR : ∀ D C acc led' s', K acc loc led' → CompEnd a loc led' D C acc s' → TK s.heap s'.heap → RR (.ref D) C (.ok .next) s') :
    wpAny a.M a.A (pyIter u) (fun it s₂ => wpAny a.M a.A (newList []) (fun acc s₃ => wpAny a.M a.A (newFunctionEnv scope a.env.globals (closureOf scope ad) [] a.env.qual none .none (some a.env)) (fun cenv s₄ =>
      codeAny a.M a.A (.compStart (.ListComp elt [⟨tg, iter, ifs, 0⟩] scope pos) 0 it acc { cenv with scope := relabel scope a.env }) (RR acc cenv.locals) s₄) a.E s₃) a.E s₂) a.E s := by
  obtain ⟨its, hid, led0, kp, J, hpick, hsz, hit, hJ, turn, done⟩ := h
  obtain ⟨led1, rest, hp0, hJ⟩ := hJ
  have hsub0 : ∀ p ∈ led1, p ∈ led0 := fun p hp => hp0.perm.symm.subset (List.mem_append_left _ hp)
  have R1' : Rep a loc (hid ++ led0) s := R0.perm hpick.perm
  refine hit s u _ R1' r0 fun I fp wr P St h' W h0 hk hwr hnt hfp halive hgo hP => ?_
  have hkeep' : ∀ p ∈ (if kp then hid else []), p ∈ hid := by
    intro p hp; cases kp with
    | true => exact hp
    | false => cases hp
  have nd1 := R1'.nodup
  rw [List.map_append, List.nodup_append] at nd1
  have hsubm : ∀ b, b ∈ led1.map (·.1) → b ∈ led0.map (·.1) := fun b hb => by
    obtain ⟨p, hp, rfl⟩ := List.mem_map.mp hb
    exact List.mem_map_of_mem (hsub0 p hp)
  have hnh : ∀ p ∈ hid, p.1 ∉ led1.map (·.1) := fun p hp hm => nd1.2.2 _ (List.mem_map_of_mem hp) _ (hsubm _ hm) rfl
  have Rs : Rep a loc led1 { s with heap := h' } := (((R1'.right).grow hk s.toks s.drawn).perm hp0.perm).left
  -- the list and the frame
  refine wpAny_newList ?_
  obtain ⟨D, hD⟩ : ∃ D, D = h'.objs.size := ⟨_, rfl⟩
  have hDn : h'.get? D = none := by rw [hD]; exact fresh_get _
  show wpAny a.M a.A (newFunctionEnv scope a.env.globals (closureOf scope ad) [] a.env.qual none .none (some a.env)) _ a.E { s with heap := h'.push { cls := .type "list", data := .seq ([] : List Value).toArray } }
  rw [show (Value.ref (({ s with heap := h' } : Shared).heap.objs.size)) = .ref D from by rw [hD]]
  refine wpAny_newFunctionEnv hcell (by intro y hy; simp at hy) (fun h₁ hns₁ hsb₁ => ?_) hkind
  dsimp only at hns₁ hsb₁ ⊢
  obtain ⟨C, hC⟩ : ∃ C, C = (h'.push { cls := .type "list", data := .seq ([] : List Value).toArray }).objs.size := ⟨_, rfl⟩
  have hC' : C = D + 1 := by rw [hC, hD, Heap.size_push]
  have hDC : D ≠ C := by rw [hC']; exact Nat.ne_of_lt (Nat.lt_succ_self _)
  have hCn : h'.get? C = none := by
    cases q : h'.get? C with
    | none => rfl
    | some o =>
      have := Heap.lt_size q
      rw [hC', hD] at this
      exact absurd (Nat.lt_of_succ_lt this) (Nat.lt_irrefl _)
  rw [← hC] at hns₁ hsb₁
  have k1 : ∀ b o, h'.get? b = some o → h₁.get? b = some o := fun b o e => hsb₁.extBut b o (fun q => by exact gone2 q e hCn) (Heap.get?_push_of_some _ (Heap.get?_push_of_some _ e))
  have hD1 : h₁.get? D = some (listOf (List.toArray []) 0) := hsb₁.extBut D _ hDC (Heap.get?_push_of_some _ (by rw [hD]; exact Heap.get?_push_size _ rfl))
  have kall : ∀ b o, s.heap.get? b = some o → h₁.get? b = some o := fun b o e => k1 b o (hk b o e)
  have fresh2 : ∀ {b}, h'.get? b = none → a.h₀.get? b = none ∧ b ≠ a.L := fun {b} hb => by
    constructor
    · cases q : a.h₀.get? b with
      | none => rfl
      | some o => exact gone (Rs.keep _ _ q) hb
    · rintro rfl
      obtain ⟨m, ns, _⟩ := Rs.ns
      obtain ⟨o, es, ep, e, _⟩ := ns
      rw [hb] at e; cases e
  have hDfp : D ∉ fp := fun hm => by
    obtain ⟨o, e⟩ := halive _ _ h0 D hm
    exact gone e hDn
  have hCfp : C ∉ fp := fun hm => by
    obtain ⟨o, e⟩ := halive _ _ h0 C hm
    exact gone e hCn
  have hDl : D ∉ led1.map (·.1) := fun hm => by
    obtain ⟨p, hp, rfl⟩ := List.mem_map.mp hm
    obtain ⟨o, e, _⟩ := (Rs.objs p hp).there
    exact gone e hDn
  have hCl : C ∉ led1.map (·.1) := fun hm => by
    obtain ⟨p, hp, rfl⟩ := List.mem_map.mp hm
    obtain ⟨o, e, _⟩ := (Rs.objs p hp).there
    exact gone e hCn
  have hDs : s.heap.get? D = none := by
    cases q : s.heap.get? D with
    | none => rfl
    | some o => exact gone (hk _ _ q) hDn
  have hCs : s.heap.get? C = none := by
    cases q : s.heap.get? C with
    | none => rfl
    | some o => exact gone (hk _ _ q) hCn
  have hDhid : ∀ p ∈ hid, p.1 ≠ D ∧ p.1 ≠ C := fun p hp => by
    obtain ⟨o, e, _⟩ := (R1'.objs p (List.mem_append_left _ hp)).there
    exact ⟨(fun q => by exact gone2 q e hDs), (fun q => by exact gone2 q e hCs)⟩
  have hmg : mainGlobals < D := by
    have := (O.glob.1.g.keeps Rs.keep).lt
    rw [hD]; exact this
  let cenv : Env := compEnvC scope (closureOf scope ad) C a.env
  let R' : Result → Shared → Prop := RR (.ref D) C
  let E' : Value → Shared → Prop := notedBy a.M a.A cenv fun e s' => R' (.error e) s'
  -- the start of a turn
  let Inv : Nat → Shared → Prop := CInv a loc its J C D St fp hid s.heap
  have loop : ∀ s₃ : Shared, s₃ = { s with heap := h₁, toks := s.toks + ([] : List (Str × Value)).length } → codeAny a.M a.A (.compLoop (.ListComp elt [⟨tg, iter, ifs, 0⟩] scope pos) 0 (.ref I) (.ref D) cenv) R' s₃ := by
    rintro s₃ rfl
    refine codeAny_compAny Inv (fun n s₂ inv => ?_) its.length ⟨0, [], led1, by omega, hJ, Rs.grow k1 _ s.drawn, ⟨_, hns₁⟩, ⟨[], 0, hD1, .nil⟩, Nat.le_refl _, hDl, hCl, W.frame _ _ _ h0 (fun b _ o e => k1 b o e), fun b hb => ⟨fun hm => (hfp b hb).1 (hsubm b hm), (hfp b hb).2⟩, TK.keeps kall, fun p _ o e => kall _ o e, hnh⟩
    obtain ⟨i, acc, led2, hin, hJ2, R2, ⟨mC, hnC⟩, ⟨vs, nn, hDo, hDr⟩, hacc, hDl2, hCl2, hSt, hfp2, t2, hh2, hn2⟩ := inv
    have moved : ∀ {h₃ : Heap} {tk₃ : Nat}, (∀ b o, b ∉ wr → s₂.heap.get? b = some o → h₃.get? b = some o) → Rep a loc led2 { s₂ with heap := h₃, toks := tk₃ } ∧ TK s₂.heap h₃ ∧ (∀ p ∈ hid, ∀ o, s.heap.get? p.1 = some o → h₃.get? p.1 = some o) ∧ h₃.Ns C mC ∧ h₃.get? D = some (listOf (List.toArray vs) nn) := by
      intro h₃ tk₃ hk3
      have tkw : TK s₂.heap h₃ := fun b vs ht => by
        by_cases hm : b ∈ wr
        · exact absurd ht (hnt i _ hSt b hm vs)
        · obtain ⟨o, e, r⟩ := ht
          exact ⟨o, hk3 b o hm e, r⟩
      have hwL : a.L ∉ wr := fun hm => (hfp2 _ (W.sub _ hm)).2 rfl
      have hwl : ∀ p ∈ led2, p.1 ∉ wr := fun p hp hm => (hfp2 _ (W.sub _ hm)).1 (List.mem_map_of_mem hp)
      have old : ∀ {b o}, s.heap.get? b = some o → b ∉ wr := fun {b o} e hm => by
        have := hwr b hm
        rw [e] at this; cases this
      obtain ⟨m, ns, l⟩ := R2.ns
      refine ⟨⟨R2.gens, R2.os, fun b o e => hk3 b o (old (R0.keep b o e)) (R2.keep b o e), ⟨m, ?_, fun x av hx => let ⟨v, e, r⟩ := l x av hx; ⟨v, e, r.mono tkw⟩⟩, R2.keys, R2.kinds,
        fun p hp => (R2.objs p hp).keep tkw fun o e => hk3 _ o (hwl p hp) e, R2.apart, R2.nodup, R2.fresh⟩, tkw, fun p hp o e => hk3 _ o (old e) (hh2 p hp o e), ?_, hk3 _ _ (fun hm => hDfp (W.sub _ hm)) hDo⟩
      · obtain ⟨o, es, ep, e, q⟩ := ns
        exact ⟨o, es, ep, hk3 _ _ hwL e, q⟩
      · obtain ⟨o, es, ep, e, q⟩ := hnC
        exact ⟨o, es, ep, hk3 _ _ (fun hm => hCfp (W.sub _ hm)) e, q⟩
    by_cases hi : i < its.length
    · refine W.item i s₂ _ _ hi hSt fun u₁ h₃ tk₃ hPu hSt3 hk3 => ?_
      obtain ⟨R3, t3, hh3, hnC3, hDo3⟩ := moved (tk₃ := tk₃) hk3
      obtain ⟨av, hav, rav⟩ := hP i u₁ h₃ hi hPu (fun b vs ht => t3 b vs (t2 b vs ht))
      refine letGo_quiet (hgo _ _ hSt3) ?_
      obtain ⟨hb, hhb⟩ : ∃ hb, hb = hideAll h₃ (C :: led2.map (·.1)) := ⟨_, rfl⟩
      have keep4 : ∀ b o, a.h₀.get? b = some o → hb.get? b = some o := fun b o e => by
        rw [hhb]
        refine hideAll_get _ (R3.keep b o e) fun hm => ?_
        rcases List.mem_cons.mp hm with rfl | hm
        · exact gone e (fresh2 hCn).1
        · obtain ⟨p, hp, rfl⟩ := List.mem_map.mp hm
          exact gone e (R3.apart p hp).2.1
      have inb : ∀ {b o}, h₃.get? b = some o → b ≠ C → b ∉ led2.map (·.1) → hb.get? b = some o := fun {b o} e h1 h2 => by
        rw [hhb]
        exact hideAll_get _ e fun hm => by
          rcases List.mem_cons.mp hm with q | hm
          · exact h1 q
          · exact h2 hm
      obtain ⟨mL, nsL, lL⟩ := R3.ns
      have hLl2 : a.L ∉ led2.map (·.1) := fun hm => by
        obtain ⟨p, hp, e⟩ := List.mem_map.mp hm
        exact (R3.apart p hp).1 e
      have hLC : a.L ≠ C := fun q => (fresh2 hCn).2 q.symm
      let c : Act (relabS scope sc) := a.comp scope (closureOf scope ad) C E' hb
      have Oc : c.Ok := ⟨hkind, O.frs.mono fun L hL => .inr (by
          rcases hL with rfl | hL
          · obtain ⟨o, e, r⟩ := plain_ns nsL
            exact ⟨o, inb e hLC hLl2, r⟩
          · exact hL.keeps keep4), O.glob.keeps keep4, O.room, fun _ _ h => h.elim⟩
      have hCb : hb.get? C = none := by rw [hhb]; exact hideAll_none _ (.head _)
      have Rc : Rep c (emptyLoc xs) led2 { s₂ with heap := h₃, toks := tk₃ } := by
        refine ⟨R3.gens, R3.os, fun b o e => of_hideAll (C :: led2.map (·.1)) (by rw [← hhb]; exact e), ⟨mC, hnC3, fun x av hx => ?_⟩, ?_, fun x hx => ?_, R3.objs, fun p hp => ⟨fun q => hCl2 ((show p.1 = C from q) ▸ List.mem_map_of_mem hp), ?_, (R3.apart p hp).2.2⟩, R3.nodup, hCb⟩
        · obtain ⟨y, _, e⟩ := List.mem_map.mp hx
          cases e
        · unfold emptyLoc
          rw [List.map_map]
          show (xs.map fun x => x).Nodup
          simpa using hxs
        · unfold emptyLoc at hx
          rw [List.map_map] at hx
          obtain ⟨y, hy, rfl⟩ := List.mem_map.mp hx
          exact hxl y hy
        · show hb.get? p.1 = none
          rw [hhb]; exact hideAll_none _ (.tail _ (List.mem_map_of_mem hp))
      have asn := turn c i av acc led2 Oc rfl rfl (fun x hx => closureOf_look hx) hav hJ2
      refine wpAny_mono (asn { s₂ with heap := h₃, toks := tk₃ } u₁ Rc rav) (fun _ s₅ p => ?_) fun _ _ e => e
      obtain ⟨cloc5, led5, ct5, R5, t5⟩ := p
      refine wpAny_mono (ct5 s₅ R5) (fun ok s₆ p => ?_) fun _ _ e => e
      obtain ⟨cloc6, led6, k6, R6, t6⟩ := p
      -- back to the outer words
      have outer : ∀ {cloc7 : Loc} {led7 : Led} {s₇ : Shared}, Rep c cloc7 led7 s₇ → TK h₃ s₇.heap → Rep a loc led7 s₇ ∧ (∃ m, s₇.heap.Ns C m) ∧ s₇.heap.get? D = some (listOf (List.toArray vs) nn) ∧ D ∉ led7.map (·.1) ∧ C ∉ led7.map (·.1) ∧ St (i + 1) s₇.heap ∧
          (∀ b ∈ fp, b ∉ led7.map (·.1) ∧ b ≠ a.L) ∧ (∀ p ∈ hid, ∀ o, s.heap.get? p.1 = some o → s₇.heap.get? p.1 = some o) ∧ (∀ p ∈ hid, p.1 ∉ led7.map (·.1)) := by
        intro cloc7 led7 s₇ R7 t7
        have off : ∀ {b : Addr} {o : Obj}, hb.get? b = some o → b ∉ led7.map (·.1) := fun {b o} e hm => by
          obtain ⟨p, hp, rfl⟩ := List.mem_map.mp hm
          have := (R7.apart p hp).2.1
          rw [show c.h₀ = hb from rfl, e] at this; cases this
        have hLb : ∀ {o}, h₃.get? a.L = some o → hb.get? a.L = some o := fun {o} e => inb e hLC hLl2
        obtain ⟨oL, esL, epL, eL, qL⟩ := id nsL
        refine ⟨⟨R7.gens, R7.os, fun b o e => R7.keep b o (keep4 b o e), ⟨mL, ⟨oL, esL, epL, R7.keep _ _ (hLb eL), qL⟩, fun x av hx => let ⟨v, e, r⟩ := lL x av hx; ⟨v, e, r.mono t7⟩⟩, R3.keys, R3.kinds, R7.objs,
          fun p hp => ⟨fun q => off (hLb eL) (q ▸ List.mem_map_of_mem hp), ?_, (R7.apart p hp).2.2⟩, R7.nodup, R3.fresh⟩, ?_, R7.keep _ _ (inb hDo3 hDC hDl2), off (inb hDo3 hDC hDl2), fun hm => ?_, ?_, fun b hb' => ⟨?_, (hfp2 b hb').2⟩, fun p hp o e => R7.keep _ _ (inb (hh3 p hp o e) (hDhid p hp).2 (hn2 p hp)), fun p hp => ?_⟩
        · cases q : a.h₀.get? p.1 with
          | none => rfl
          | some o =>
            have := (R7.apart p hp).2.1
            rw [show c.h₀ = hb from rfl, keep4 _ _ q] at this; cases this
        · obtain ⟨m, ns, _⟩ := R7.ns
          exact ⟨m, ns⟩
        · obtain ⟨p, hp, e⟩ := List.mem_map.mp hm
          exact (R7.apart p hp).1 e
        · exact W.frame (i + 1) h₃ s₇.heap hSt3 fun b hb' o e => R7.keep b o (inb e (fun q => hCfp (q ▸ hb')) (hfp2 b hb').1)
        · obtain ⟨o, eo⟩ := halive _ _ hSt3 b hb'
          exact off (inb eo (fun q => hCfp (q ▸ hb')) (hfp2 b hb').1)
        · obtain ⟨o, eo, _⟩ := (R1'.objs p (List.mem_append_left _ hp)).there
          exact off (inb (hh3 p hp o eo) (hDhid p hp).2 (hn2 p hp))
      have shrink : ∀ {led7 led8 rest8 : Led}, PickO led7 led8 rest8 → ∀ b, b ∈ led8.map (·.1) → b ∈ led7.map (·.1) := fun p b hb => by
        obtain ⟨q, hq, rfl⟩ := List.mem_map.mp hb
        exact List.mem_map_of_mem (p.perm.symm.subset (List.mem_append_left _ hq))
      cases ok with
      | false =>
        rw [if_neg (by decide)]
        obtain ⟨led8, rest8, hp8, k8⟩ := k6.2 rfl
        obtain ⟨o1, o2, o3, o4, o5, o6, o7, o8, o9⟩ := outer R6 (t5.trans t6)
        have tt : TK s₂.heap s₆.heap := (t3.trans t5).trans t6
        exact ⟨n - 1, by omega, i + 1, acc, led8, by omega, k8, (o1.perm hp8.perm).left, o2, ⟨vs, nn, o3, hDr.mono tt⟩, by omega, fun hm => o4 (shrink hp8 _ hm), fun hm => o5 (shrink hp8 _ hm), o6, fun b hb => ⟨fun hm => (o7 b hb).1 (shrink hp8 _ hm), (o7 b hb).2⟩, t2.trans tt, o8, fun p hp hm => o9 p hp (shrink hp8 _ hm)⟩
      | true =>
        rw [if_pos rfl]
        refine wpAny_mono (k6.1 rfl s₆ R6) (fun y s₇ p => ?_) fun _ _ e => e
        obtain ⟨yv, cloc7, led7, k7, R7, t7, r7⟩ := p
        obtain ⟨led8, rest8, hp8, k8⟩ := k7
        have tt : TK s₂.heap s₇.heap := ((t3.trans t5).trans t6).trans t7
        obtain ⟨o1, o2, o3, o4, o5, o6, o7, o8, o9⟩ := outer R7 ((t5.trans t6).trans t7)
        refine wpAny_list_append_plain (items := vs.toArray) ⟨nn, o3⟩ (fun h₈ hp hs => ?_) ?_
        · obtain ⟨n8, hd8⟩ := hp
          have ntD : ∀ ws, ¬ IsTup s₇.heap D ws := not_tup o3 (by simp)
          have t8 : TK s₇.heap h₈ := TK.but hs ntD
          have keep8 : ∀ b o, b ≠ D → s₇.heap.get? b = some o → h₈.get? b = some o := fun b o hb e => (hs.2 b hb).trans e
          obtain ⟨m2, n2⟩ := o2
          obtain ⟨mL', nsL', lL'⟩ := o1.ns
          have o1' : Rep a loc led7 { s₇ with heap := h₈ } := by
            refine ⟨o1.gens, o1.os, fun b o e => keep8 b o (fun q => ?_) (o1.keep b o e), ⟨mL', ?_, fun x av hx => let ⟨v, e, r⟩ := lL' x av hx; ⟨v, e, r.mono t8⟩⟩, o1.keys, o1.kinds, fun p hp => (o1.objs p hp).keep t8 fun o e => keep8 _ o (fun q => o4 (q ▸ List.mem_map_of_mem hp)) e, o1.apart, o1.nodup, o1.fresh⟩
            · exact gone2 q e (fresh2 hDn).1
            · exact nsL'.sameBut hs (fun q => (fresh2 hDn).2 q.symm)
          refine ⟨n - 1, by omega, i + 1, acc ++ [yv], led8, by omega, k8, (o1'.perm hp8.perm).left, ⟨m2, n2.sameBut hs (Ne.symm hDC)⟩, ⟨vs ++ [y], n8, by simpa using hd8, RelL.append (hDr.mono (tt.trans t8)) (.cons (r7.mono t8) .nil)⟩, by simp; omega, fun hm => o4 (shrink hp8 _ hm), fun hm => o5 (shrink hp8 _ hm), ?_, fun b hb => ⟨fun hm => (o7 b hb).1 (shrink hp8 _ hm), (o7 b hb).2⟩, t2.trans (tt.trans t8), fun p hp o e => keep8 _ o (hDhid p hp).1 (o8 p hp o e), fun p hp hm => o9 p hp (shrink hp8 _ hm)⟩
          exact W.frame _ _ _ o6 fun b hb o e => keep8 b o (fun q => hDfp (q ▸ hb)) e
        · rw [List.size_toArray, hDr.length]
          exact Nat.le_trans (Nat.le_trans hacc (Nat.le_trans (Nat.le_of_lt hi) hsz)) (by decide)
    · obtain rfl : i = its.length := by omega
      refine W.done s₂ _ _ hSt fun h₃ tk₃ hk3 => ?_
      obtain ⟨R3, t3, hh3, hnC3, hDo3⟩ := moved (tk₃ := tk₃) hk3
      refine hRR D C acc _ _ (done acc led2 hJ2).out ⟨?_, ⟨mC, hnC3⟩, ⟨Ne.symm hDC, (fresh2 hCn).2, (fresh2 hCn).1, fun p hp => ?_⟩⟩ (t2.trans t3)
      · refine ⟨R3.gens, R3.os, R3.keep, R3.ns, R3.keys, R3.kinds, fun p hp => ?_, fun p hp => ?_, ?_, R3.fresh⟩
        · rcases List.mem_cons.mp hp with rfl | hp
          · exact ⟨vs, nn, hDo3, hDr.mono t3⟩
          rcases List.mem_append.mp hp with hp | hp
          · exact (R1'.objs p (List.mem_append_left _ (hkeep' p hp))).keep (t2.trans t3) (hh3 p (hkeep' p hp))
          · exact R3.objs p hp
        · rcases List.mem_cons.mp hp with rfl | hp
          · exact ⟨(fresh2 hDn).2, (fresh2 hDn).1, hmg⟩
          rcases List.mem_append.mp hp with hp | hp
          · exact R1'.apart p (List.mem_append_left _ (hkeep' p hp))
          · exact R3.apart p hp
        · rw [List.map_cons, List.nodup_cons, List.map_append, List.nodup_append]
          refine ⟨fun hm => ?_, ?_, R3.nodup, fun x hx y hy e => ?_⟩
          · rcases List.mem_append.mp hm with hm | hm
            · obtain ⟨p, hp, e⟩ := List.mem_map.mp hm
              exact (hDhid p (hkeep' p hp)).1 e
            · exact hDl2 hm
          · cases kp with
            | true => exact nd1.1
            | false => exact List.nodup_nil
          · subst e
            obtain ⟨p, hp, rfl⟩ := List.mem_map.mp hx
            exact hn2 p (hkeep' p hp) hy
      · rcases List.mem_append.mp hp with hp | hp
        · exact (hDhid p (hkeep' p hp)).2
        · exact fun q => hCl2 (q ▸ List.mem_map_of_mem hp)
  have e0 : ({ newEnv scope C a.env.globals (closureOf scope ad) a.env.qual none .none (some a.env) 0 with scope := relabel scope a.env } : Env) = { newEnv scope C a.env.globals (closureOf scope ad) a.env.qual none .none (some a.env) 0 with scope := relabel scope a.env } := rfl
  rw [← hC]
  exact codeAny_compStart_list (loop _ rfl) (W.self 0 _ _ _ (W.frame _ _ _ h0 (fun b _ o e => k1 b o e)) (loop _ rfl))

theorem Rep.other (R : Rep a loc led s) {C : Addr} {h' : Heap} (hs : Heap.SameBut C s.heap h') (h1 : C ≠ a.L) (h2 : a.h₀.get? C = none) (h3 : ∀ p ∈ led, p.1 ≠ C) (ht : ∀ vs, ¬ IsTup s.heap C vs) : Rep a loc led { s with heap := h' } ∧ TK s.heap h' := by
  have tk : TK s.heap h' := TK.but hs ht
  obtain ⟨m, ns, l⟩ := R.ns
  exact ⟨⟨R.gens, R.os, fun b o e => (hs.2 b (fun q => by rw [q, h2] at e; cases e)).trans (R.keep b o e), ⟨m, ns.sameBut hs (Ne.symm h1), fun x av hx => let ⟨v, e, r⟩ := l x av hx; ⟨v, e, r.mono tk⟩⟩, R.keys, R.kinds,
    fun p hp => (R.objs p hp).keep tk fun o e => (hs.2 _ (h3 p hp)).trans e, R.apart, R.nodup, R.fresh⟩, tk⟩
theorem ns_tup {h : Heap} {L : Addr} {m : Str → Option Value} (n : h.Ns L m) : ∀ vs, ¬ IsTup h L vs := by
  rintro vs ⟨o, e, hc, n', hd⟩
  obtain ⟨o', es, ep, e', hd', _⟩ := n
  rw [e] at e'; cases e'; rw [hd] at hd'; cases hd'

noncomputable def compOk (scope sc : Scope) (xs : List Str) : Bool :=
  scope.names.all (fun y => y.2 != .cell) && (scope.kind == .function) && scope.names.all (fun y => y.2 != .local || scope.names.lookup y.1 == some .local) && decide xs.Nodup && xs.all fun x => (relabS scope sc).names.lookup x == some .local && !(x == ("__debug__" : Str))
theorem compOk.all {scope sc : Scope} {xs : List Str} (h : compOk scope sc xs = true) : (∀ y ∈ scope.names, y.2 ≠ .cell) ∧ scope.kind = .function ∧ (∀ y ∈ scope.names, y.2 = .local → scope.names.lookup y.1 = some .local) ∧ xs.Nodup ∧
    ∀ x ∈ xs, (relabS scope sc).names.lookup x = some .local ∧ (x == ("__debug__" : Str)) = false := by
  unfold compOk at h
  simp only [Bool.and_eq_true, List.all_eq_true, bne_iff_ne, ne_eq, beq_iff_eq, decide_eq_true_eq, Bool.not_eq_true', Bool.or_eq_true] at h
  obtain ⟨⟨⟨⟨h1, h2⟩, h3⟩, h4⟩, h5⟩ := h
  refine ⟨fun y hy => by simpa using h1 y hy, h2, fun y hy e => ?_, h4, h5⟩
  rcases h3 y hy with h | h
  · exact absurd e (by simpa using h)
  · exact h
noncomputable abbrev cComp (a : Act sc) (K : KV) : List AV → Loc → Led → Prop := fun acc loc led => ∀ D, K (.ref D) loc ((D, .list acc) :: led)
theorem Ev_ListComp {scope : Scope} {tg elt iter : Expr} {ifs : List Expr} {pos : Pos} (ad : Str → Addr) (xs : List Str) (O : a.Ok) (hok : compOk scope sc xs = true) (hcl : ∀ x ∈ (scope.names.filter (·.2 == .free)).map (·.1), a.cl.lookup x = some (ad x))
    (hs : ∀ x, foldedSetIterable iter a.env x = pure x) (h : Ev a (eval iter a.env) loc led (CompA a scope tg elt ifs ad xs (cComp a K))) :
    Ev a (eval (.ListComp elt [⟨tg, iter, ifs, 0⟩] scope pos) a.env) loc led K := by
  intro s R
  obtain ⟨h1, h2, h3, h4, h5⟩ := compOk.all hok
  rw [eval_ListComp]
  refine wpAny_comprehension_free (use := none) rfl hs (closure_is (ad := ad) (env := a.env) hcl) h2 h3 (wpAny_mono (h s R) (fun u s₁ p => ?_) fun _ _ e => e)
  obtain ⟨v, l1, d1, k1, R1, t1, r1⟩ := p
  refine comp_core (RR := fun acc C => compPost a.M a.A a.E none (Post a s.heap K) acc C) O h1 h2 h4 h5 R1 r1 k1 fun D C acc led' s' hK hE tk => ?_
  obtain ⟨m, hn⟩ := hE.ns
  refine ⟨m, hn, fun h' hs' => ?_⟩
  obtain ⟨R2, t2⟩ := hE.rep.other hs' hE.out.2.1 hE.out.2.2.1 (fun p hp => by
    rcases List.mem_cons.mp hp with rfl | hp
    · exact Ne.symm hE.out.1
    · exact hE.out.2.2.2 p hp) (ns_tup hn)
  exact ⟨.ref D, l1, _, hK D, R2, t1.trans (tk.trans t2), rfl⟩
noncomputable abbrev cCompS (a : Act sc) (y : Str) (KS : KSt) : List AV → Loc → Led → Prop := fun acc loc led => ∀ D, Stored y (.ref D) loc (cNext KS ((D, .list acc) :: led))
theorem Ex_AssignComp {scope : Scope} {tg elt iter : Expr} {ifs : List Expr} {pos spos : Pos} {y : Str} {py : Pos} (ad : Str → Addr) (xs : List Str) (O : a.Ok) (hsw : swapsWith (.ListComp elt [⟨tg, iter, ifs, 0⟩] scope pos) (some (.Name y py)) spos.line a.env = pure true)
    (hok : compOk scope sc xs = true) (hcl : ∀ x ∈ (scope.names.filter (·.2 == .free)).map (·.1), a.cl.lookup x = some (ad x))
    (hs : ∀ x, foldedSetIterable iter a.env x = pure x) (h : Ev a (eval iter a.env) loc led (CompA a scope tg elt ifs ad xs (cCompS a y KS))) :
    Ex a (exec (.Assign [.Name y py] (.ListComp elt [⟨tg, iter, ifs, 0⟩] scope pos) spos) a.env) loc led KS := by
  intro s R
  obtain ⟨h1, h2, h3, h4, h5⟩ := compOk.all hok
  rw [exec_Assign_Name_used _ _ _ _ hsw]
  refine wpAny_bind (wpAny_standAt (wpAny_bind ?_))
  show wpAny _ _ (do let _ ← comprehension (.ListComp elt [⟨tg, iter, ifs, 0⟩] scope pos) scope a.env _ (newList []) false (eval iter a.env) (some (assign (.Name y py) a.env))) _ _ s
  refine wpAny_bind (wpAny_mono (wpAny_comprehension_free (use := some (assign (.Name y py) a.env)) (Q := fun _ s' => PostF a s.heap KS .next s') rfl hs (closure_is (ad := ad) (env := a.env) hcl) h2 h3
    (wpAny_mono (h s R) (fun u s₁ p => ?_) fun _ _ e => e)) (fun _ s' hq => wpAny_pure (wpAny_pure hq)) fun _ _ e => e)
  obtain ⟨v, l1, d1, k1, R1, t1, r1⟩ := p
  refine comp_core (RR := fun acc C => compPost a.M a.A a.E (some (assign (.Name y py) a.env)) (fun _ s' => PostF a s.heap KS .next s') acc C) O h1 h2 h4 h5 R1 r1 k1 fun D C acc led' s' hK hE tk => ?_
  obtain ⟨m, hn⟩ := hE.ns
  obtain ⟨loc', g, k⟩ := hK D
  show wpAny a.M a.A (assign (.Name y py) a.env (.ref D)) _ _ _
  refine wpAny_assign_Name ?_
  obtain ⟨mL, nsL, _⟩ := hE.rep.ns
  have hCl : ∀ p ∈ (D, AO.list acc) :: led', p.1 ≠ C := fun p hp => by
    rcases List.mem_cons.mp hp with rfl | hp
    · exact Ne.symm hE.out.1
    · exact hE.out.2.2.2 p hp
  -- the store, and the frame stays
  have hx : a.env.kindOf y = some .local := kind_env (hE.rep.kinds y g.mem).1
  refine wpAny_storeName_local hx nsL (fun h' n' hs => ?_) (by
    show (sc.kind == .class || (sc.kind == .module && a.L != mainGlobals)) = false
    rw [O.kind]; rfl)
  have hnC : h'.Ns C m := hn.sameBut hs hE.out.2.1
  refine ⟨m, hnC, fun h'' hs'' => ?_⟩
  have R3 : Rep a loc' ((D, .list acc) :: led') { s' with heap := h', toks := s'.toks + 1 } ∧ TK s'.heap h' := by
    have tk : TK s'.heap h' := TK.but hs (ns_tup nsL)
    have R := hE.rep
    obtain ⟨mL', nsL', l⟩ := R.ns
    have em : mL' = mL := by
      obtain ⟨o, es, ep, e, hd, _, hm⟩ := nsL
      obtain ⟨o', es', ep', e', hd', _, hm'⟩ := nsL'
      rw [show a.env.locals = a.L from rfl] at *
      rw [e] at e'; cases e'; rw [hd] at hd'; cases hd'
      funext z; rw [← hm z, ← hm' z]
    subst em
    refine ⟨⟨R.gens, R.os, fun b o e => (hs.2 b (fun q => ?_)).trans (R.keep b o e), ⟨_, n', fun z bv hm => ?_⟩, by rw [g.keys]; exact R.keys, by rw [g.keys]; exact R.kinds, fun p hp => ?_, R.apart, R.nodup, R.fresh⟩, tk⟩
    · have := R.fresh
      rw [q] at e
      rw [show a.env.locals = a.L from rfl, this] at e; cases e
    · rcases g.of R.keys hm with ⟨rfl, rfl⟩ | ⟨hne, hm⟩
      · exact ⟨.ref D, by simp, rfl⟩
      · obtain ⟨v', e', r'⟩ := l z bv hm
        exact ⟨v', by simp [hne, e'], r'.mono tk⟩
    · exact (R.objs p hp).keep tk fun o e => (hs.2 _ (R.apart p hp).1).trans e
  obtain ⟨R4, t4⟩ := R3.1.other hs'' hE.out.2.1 hE.out.2.2.1 hCl (ns_tup hnC)
  exact (.inl ⟨.next, loc', _, k, R4, t1.trans ((tk.trans R3.2).trans t4), rfl⟩)
end

end

section
open PySem PySem.W PyProof.Rows
section
variable {sc : Scope} {a : Act sc} {loc : Loc} {led : Led} {s : Shared} {K : KV} {KS : KSt} {KB : KBo} {KL : KLi} {KU : KUn}

theorem rel_handed {h : Heap} {x : AV} {v : Value} (r : Rel h x v) : handedIn v = true := by
  cases x with
  | none => cases r; rfl
  | bool b => cases r; rfl
  | int i => obtain ⟨t, rfl⟩ := r; rfl
  | str y => obtain ⟨t, rfl⟩ := r; rfl
  | ref y => cases r; rfl
  | ty T => cases r; rfl
  | tup xs => unfold Rel at r; obtain ⟨d, vs, rfl, _⟩ := r; rfl

theorem isStr_key {e : DictEntry} {x y : Str} {t : Tok} (h : e.key = .str x t) : e.key.isStr y = (x == y) := by rw [h]; rfl
theorem EntsR.noref {h : Heap} : ∀ {kvs : List (Str × AV)} {es : List DictEntry}, EntsR h kvs es → es.any (·.refKey) = false
  | [], _, e => by cases e; rfl
  | _ :: _, _, ⟨e, r, e1, ⟨t, hk⟩, _, e4⟩ => by
    subst e1
    rw [List.any_cons, EntsR.noref e4, Bool.or_false]
    unfold DictEntry.refKey
    rw [hk]
theorem EntsR.getL {h : Heap} {name : Str} {av : AV} : ∀ {kvs : List (Str × AV)} {es : List DictEntry}, EntsR h kvs es → (kvs.map (·.1)).Nodup → (name, av) ∈ kvs → ∃ v, PySem.W.getL name es = some (some v) ∧ Rel h av v
  | x :: xs, _, ⟨e, r, e1, ⟨t, hk⟩, e3, e4⟩, nd, hm => by
    subst e1
    unfold PySem.W.getL
    rw [List.find?_cons, isStr_key hk]
    by_cases hx : x.1 = name
    · have : (x.1 == name) = true := by rw [hx]; simp
      rw [this]
      rcases List.mem_cons.mp hm with e' | hm
      · subst e'; exact ⟨_, rfl, e3⟩
      · exact absurd (List.mem_map.mpr ⟨_, hm, hx.symm⟩) (List.nodup_cons.mp nd).1
    · have : (x.1 == name) = false := beq_eq_false_iff_ne.mpr hx
      rw [this]
      have hm' : (name, av) ∈ xs := by
        rcases List.mem_cons.mp hm with e' | hm
        · exact absurd (by rw [← e']) hx
        · exact hm
      obtain ⟨v, e5, e6⟩ := EntsR.getL e4 (List.nodup_cons.mp nd).2 hm'
      refine ⟨v, ?_, e6⟩
      unfold PySem.W.getL at e5
      dsimp only
      rw [show (e :: r).any (·.refKey) = r.any (·.refKey) from by rw [List.any_cons, show e.refKey = false from by unfold DictEntry.refKey; rw [hk], Bool.false_or]]
      exact e5
theorem EntsR.getN {h : Heap} {name : Str} : ∀ {kvs : List (Str × AV)} {es : List DictEntry}, EntsR h kvs es → name ∉ kvs.map (·.1) → PySem.W.getL name es = some none := by
  intro kvs es r hn
  have hf : ∀ {kvs : List (Str × AV)} {es : List DictEntry}, EntsR h kvs es → name ∉ kvs.map (·.1) → es.find? (·.key.isStr name) = none := by
    intro kvs
    induction kvs with
    | nil => intro es r _; cases r; rfl
    | cons x xs ih =>
      rintro es ⟨e, r, rfl, ⟨t, hk⟩, e3, e4⟩ hn
      rw [List.find?_cons, isStr_key hk]
      have : (x.1 == name) = false := beq_eq_false_iff_ne.mpr fun e => hn (by rw [List.map_cons, e]; exact .head _)
      rw [this]
      exact ih e4 fun hm => hn (.tail _ hm)
  unfold PySem.W.getL
  rw [hf r hn, r.noref]
  rfl
noncomputable def putA (name : Str) (av : AV) : List (Str × AV) → List (Str × AV)
  | [] => [(name, av)]
  | p :: r => if p.1 = name then (name, av) :: r else p :: putA name av r
theorem EntsR.put {h : Heap} {name : Str} {av : AV} {v : Value} {hsh : Int} {t : Tok} (rv : Rel h av v) : ∀ {kvs : List (Str × AV)} {es : List DictEntry}, EntsR h kvs es → EntsR h (putA name av kvs) (putL name hsh (.str name t) v es)
  | [], _, e => by cases e; exact ⟨_, [], rfl, ⟨t, rfl⟩, rv, rfl⟩
  | x :: xs, _, ⟨e, r, e1, ⟨t', hk⟩, e3, e4⟩ => by
    subst e1
    unfold putA putL
    rw [isStr_key hk]
    by_cases hx : x.1 = name
    · rw [if_pos hx, if_pos (by rw [hx]; simp)]
      exact ⟨_, r, rfl, ⟨t', by dsimp only; rw [hk, hx]⟩, rv, e4⟩
    · rw [if_neg hx, if_neg (by simpa using hx)]
      exact ⟨_, _, rfl, ⟨t', hk⟩, e3, EntsR.put rv e4⟩
theorem PutK.putA {name : Str} {av : AV} {l l' : List (Str × AV)} (h : PutK name av l l') : (l.map (·.1)).Nodup → Mine.putA name av l = l' := by
  induction h with
  | here => intro _; unfold Mine.putA; rw [if_pos rfl]
  | @there p r r' h ih =>
    intro n
    have hne : p.1 ≠ name := fun e => (List.nodup_cons.mp n).1 (show p.1 ∈ r.map (·.1) by rw [e]; exact h.key)
    unfold Mine.putA
    rw [if_neg hne, ih (List.nodup_cons.mp n).2]
theorem putA_new {name : Str} {av : AV} : ∀ {l : List (Str × AV)}, name ∉ l.map (·.1) → putA name av l = l ++ [(name, av)]
  | [], _ => rfl
  | p :: r, h => by
    unfold putA
    rw [if_neg (fun e => h (by rw [List.map_cons, e]; exact .head _)), putA_new fun hm => h (.tail _ hm)]
    rfl
theorem putA_keys {name : Str} {av : AV} : ∀ {l : List (Str × AV)}, (l.map (·.1)).Nodup → ((putA name av l).map (·.1)).Nodup ∧ ∀ x, x ∈ (putA name av l).map (·.1) → x = name ∨ x ∈ l.map (·.1)
  | [], _ => by simp [putA]
  | p :: r, n => by
    unfold putA
    by_cases hx : p.1 = name
    · rw [if_pos hx]
      refine ⟨by rw [List.map_cons]; rw [List.map_cons, hx] at n; exact n, fun x hm => ?_⟩
      rcases List.mem_cons.mp hm with e | hm
      · exact .inl e
      · exact .inr (.tail _ hm)
    · rw [if_neg hx]
      obtain ⟨h1, h2⟩ := List.nodup_cons.mp n
      obtain ⟨i1, i2⟩ := putA_keys (name := name) (av := av) h2
      refine ⟨by
        rw [List.map_cons, List.nodup_cons]
        refine ⟨fun hm => ?_, i1⟩
        rcases i2 _ hm with e | hm
        · exact hx e
        · exact h1 hm, fun x hm => ?_⟩
      rcases List.mem_cons.mp hm with e | hm
      · exact .inr (by rw [e]; exact .head _)
      · rcases i2 _ hm with e | hm
        · exact .inl e
        · exact .inr (.tail _ hm)
theorem EntsR.len {h : Heap} : ∀ {kvs : List (Str × AV)} {es : List DictEntry}, EntsR h kvs es → es.length = kvs.length
  | [], _, e => by cases e; rfl
  | _ :: _, _, ⟨_, _, e1, _, _, e4⟩ => by subst e1; simp [EntsR.len e4]

/-! ### all that lies in a heap -/
noncomputable def allNews (h : Heap) (L d : Addr) : List (Addr × Obj) := (List.range h.objs.size).filterMap fun b => if b = L ∨ b = d then none else (h.get? b).map fun o => (b, o)
noncomputable def noHeap : Heap := { objs := #[] }
theorem noHeap_get (b : Addr) : noHeap.get? b = none := by
  cases q : noHeap.get? b with
  | none => rfl
  | some o => exact absurd (Heap.lt_size q) (Nat.not_lt_zero _)
theorem allNews_mem {h : Heap} {L d b : Addr} {o : Obj} (e : h.get? b = some o) (h1 : b ≠ L) (h2 : b ≠ d) : (b, o) ∈ allNews h L d := by
  refine List.mem_filterMap.mpr ⟨b, List.mem_range.mpr (Heap.lt_size e), ?_⟩
  rw [if_neg (fun q => q.elim h1 h2), e]; rfl
theorem allNews_of {h : Heap} {L d : Addr} {p : Addr × Obj} (hp : p ∈ allNews h L d) : h.get? p.1 = some p.2 ∧ p.1 ≠ L ∧ p.1 ≠ d := by
  obtain ⟨b, _, e⟩ := List.mem_filterMap.mp hp
  split at e
  · cases e
  · next hn =>
    obtain ⟨o, eo, rfl⟩ := Option.map_eq_some_iff.mp e
    exact ⟨eo, fun q => hn (.inl q), fun q => hn (.inr q)⟩

/-- an object of the ledger changed, its class maybe too -/
theorem Rep.change' (R : Rep a loc led s) {d : Addr} {x : AO} {led' : Led} (g : SetO d x led led') {h' : Heap} {tk : Nat} (hs : ∀ b o, b ≠ d → s.heap.get? b = some o → h'.get? b = some o) (ho : ObjIs a.w h' d x) :
    Rep a loc led' { s with heap := h', toks := tk } ∧ TK s.heap h' := by
  obtain ⟨p, hp, e⟩ := List.mem_map.mp g.key
  obtain ⟨o, eo, hn⟩ := (R.objs p hp).there
  rw [e] at eo hn
  have tk' : TK s.heap h' := fun b vs ht => by
    by_cases hb : b = d
    · exact absurd (hb ▸ ht) (hn vs)
    · obtain ⟨o, e, r⟩ := ht; exact ⟨o, hs b o hb e, r⟩
  have ap := R.apart p hp
  rw [e] at ap
  obtain ⟨m, ns, l⟩ := R.ns
  refine ⟨⟨R.gens, R.os, fun b o eb => hs b o (fun q => ?_) (R.keep b o eb), ⟨m, ?_, fun x bv hx => let ⟨v', e', r'⟩ := l x bv hx; ⟨v', e', r'.mono tk'⟩⟩, R.keys, R.kinds, fun q hq => ?_, fun q hq => ?_, g.keys ▸ R.nodup, R.fresh⟩, tk'⟩
  · exact gone2 q eb (ap.2.1)
  · obtain ⟨o, es, ep, e, q⟩ := ns
    exact ⟨o, es, ep, hs _ _ (Ne.symm ap.1) e, q⟩
  · rcases g.of R.nodup hq with e | ⟨hne, hm⟩
    · subst e; exact ho
    · exact (R.objs q hm).keep tk' fun o e => hs _ o hne e
  · rcases g.of R.nodup hq with e | ⟨hne, hm⟩
    · subst e; exact ap
    · exact R.apart q hm

/-! ### classes of the text -/
noncomputable def clsOk (K : Frag) (C : Addr) (gets sets : List Str) : Bool :=
  hasDictIn K C && plainGet K C Str.empty && plainOver K C && (findIn K (.ref C) "__setattr__" == some (some (.builtin "object.__setattr__"))) &&
  gets.all (fun n => match findIn K (.ref C) n with | some attr => noGet K attr | none => false) && sets.all (fun n => takerIn K C n == some none)
noncomputable def ClsOk (C : Addr) (gets sets : List Str) : Prop := ∀ w : World, clsOk (KF w.params) C gets sets = true

theorem inst_at {x C d : Addr} {kvs : List (Str × AV)} (R : Rep a loc led s) (g : GetO x (.inst C d) led) (g' : GetO d (.attrs kvs) led) :
    ∃ es n, InstAt s.heap x ⟨.ref C, some d, .plain, #[]⟩ C (some (dictOf es n)) ∧ EntsR s.heap kvs es ∧ (kvs.map (·.1)).Nodup ∧ s.heap.get? d = some (dictOf es n) := by
  have h1 := R.objs _ g.mem
  obtain ⟨es, n, h2, h3, h4⟩ := R.objs _ g'.mem
  exact ⟨es, n, ⟨h1, rfl, rfl, h2⟩, h3, h4, h2⟩
theorem get_attr {x C d : Addr} {name : Str} {av : AV} {kvs : List (Str × AV)} {gets sets : List Str} {e : Bool} (O : a.Ok) (c : ClsOk C gets sets) (hn : gets.contains name = true) (g : GetO x (.inst C d) led) (g' : GetO d (.attrs kvs) led) (gk : GetK name av kvs) (k : K av loc led) :
    Op1 a (fun v => getAttr v name e) (.ref x) loc led K := by
  rintro s v R rfl
  obtain ⟨es, n, I, he, nd, _⟩ := inst_at R g g'
  obtain ⟨u, hu, ru⟩ := he.getL nd gk.mem
  have hc := c a.w
  simp only [clsOk, Bool.and_eq_true, List.all_eq_true] at hc
  obtain ⟨⟨⟨⟨⟨c1, c2⟩, c3⟩, c4⟩, c5⟩, c6⟩ := hc
  have c5 := c5 name (by simpa using hn)
  cases hf : findIn (KF a.w.params) (.ref C) name with
  | none => rw [hf] at c5; cases c5
  | some attr =>
    rw [hf] at c5
    exact get_value (O.glob.2.keeps R.keep) I (plainGet_of (name := Str.empty) c2).1 (findObj_own c1 hf c5 hu) (rel_handed ru) (.toks k R ru _)
theorem Ev_Attr {value : Expr} {attr : Str} {pos : Pos} (he : eval (.Attribute value attr pos) a.env = (do
      let o ← eval value a.env
      standAt pos.atName
      let r ← holding [o] (getAttr o attr true)
      letTemporaryGo value o r
      pure r)) (h : Ev a (eval value a.env) loc led (cOp1 a (fun v => getAttr v attr true) K)) : Ev a (eval (.Attribute value attr pos) a.env) loc led K := by
  intro s R
  refine Attribute_any_ (wpAny_mono (h s R) (fun v s₁ p => ?_) fun _ _ e => e) he
  obtain ⟨x, l1, d1, k1, R1, t1, r1⟩ := p
  exact wpAny_mono (k1 s₁ v R1 r1) (fun _ _ p => p.from t1) fun _ _ e => e

/-- storing an attribute -/
noncomputable def SetAt (a : Act sc) (name : Str) (x y : AV) (loc : Loc) (led : Led) (KU : KUn) : Prop :=
  ∀ s v u, Rep a loc led s → Rel s.heap x v → Rel s.heap y u → wpAny a.M a.A (setAttr v name u) (PostU a s.heap KU) a.E s
theorem set_attr {x C d : Addr} {name : Str} {av : AV} {kvs : List (Str × AV)} {led' : Led} {gets sets : List Str} (O : a.Ok) (c : ClsOk C gets sets) (hn : sets.contains name = true) (g : GetO x (.inst C d) led) (g' : GetO d (.attrs kvs) led) (hz : kvs.length ≤ 900)
    (g2 : SetO d (.attrs (putA name av kvs)) led led') (k : KU loc led') : SetAt a name (.ref x) av loc led KU := by
  rintro s v u R rfl ru
  obtain ⟨es, n, I, he, nd, hd⟩ := inst_at R g g'
  have hc := c a.w
  simp only [clsOk, Bool.and_eq_true, List.all_eq_true] at hc
  obtain ⟨⟨⟨⟨⟨c1, c2⟩, c3⟩, c4⟩, c5⟩, c6⟩ := hc
  have c6 := c6 name (by simpa using hn)
  have X := O.glob.2.keeps R.keep
  obtain ⟨m, ns, l⟩ := R.ns
  have ap := R.apart _ g'.mem
  refine set_plain X I (beq_iff_eq.mp c4) (osa_dict (s := { s with toks := s.toks + 1 }) (h₀ := noHeap) (L := a.L) (m := m) (pre := []) (post := allNews s.heap a.L d) ⟨ns, (fun b o e => by rw [noHeap_get] at e; cases e), Nat.zero_le _⟩ ?_ X I rfl c3 (beq_iff_eq.mp c6) c1 ?_ (fun p hp => nomatch hp) (fun p hp => (allNews_of hp).2.2) (putName_dict _ _ _ _ _ _) rfl ?_ fun h' F' N' => ?_)
  · intro p hp
    rcases List.mem_cons.mp hp with rfl | hp
    · exact ⟨hd, ap.1, noHeap_get _⟩
    · obtain ⟨h1, h2, _⟩ := allNews_of hp
      exact ⟨h1, h2, noHeap_get _⟩
  · rw [lookIn_dict]
    by_cases hm : name ∈ kvs.map (·.1)
    · obtain ⟨p, hp, rfl⟩ := List.mem_map.mp hm
      obtain ⟨v, e, _⟩ := he.getL nd (show (p.1, p.2) ∈ kvs from hp)
      rw [e]; rfl
    · rw [he.getN hm]; rfl
  · have := (he.put (name := name) (hsh := PyData.keyHash a.w.params name) (t := s.toks + 1) ru).len
    have h2 : (putA name av kvs).length ≤ kvs.length + 1 := by
      have : ∀ l : List (Str × AV), (putA name av l).length ≤ l.length + 1 := by
        intro l
        induction l with
        | nil => simp [putA]
        | cons p r ih => unfold putA; split <;> simp; exact ih
      exact this kvs
    show (putL name (PyData.keyHash a.w.params name) (.str name (s.toks + 1)) u es).length ≤ 1000
    omega
  · have hs : ∀ b o, b ≠ d → b ≠ a.L → s.heap.get? b = some o → h'.get? b = some o := fun b o h1 h2 e => (N' (b, o) (List.mem_cons_of_mem _ (allNews_mem e h2 h1))).1
    have hd' := (N' (d, dictOf (putL name (PyData.keyHash a.w.params name) (.str name (s.toks + 1)) u es) (putN name es n)) (.head _)).1
    have hdt : ∀ vs, ¬ IsTup s.heap d vs := not_tup hd (by simp)
    have tk' : TK s.heap h' := fun b vs ht => by
      by_cases hb : b = d
      · exact absurd (hb ▸ ht) (hdt vs)
      · by_cases hL : b = a.L
        · exact absurd (hL ▸ ht) (ns_tup ns vs)
        · obtain ⟨o, e, r⟩ := ht; exact ⟨o, hs b o hb hL e, r⟩
    refine ⟨loc, led', k, ⟨R.gens, R.os, fun b o eb => hs b o (fun q => ?_) (fun q => ?_) (R.keep b o eb), ⟨m, F'.ns, fun x bv hx => let ⟨v', e', r'⟩ := l x bv hx; ⟨v', e', r'.mono tk'⟩⟩, R.keys, R.kinds, fun q hq => ?_, fun q hq => ?_, g2.keys ▸ R.nodup, R.fresh⟩, tk'⟩
    · exact gone2 q eb (ap.2.1)
    · exact gone2 q eb (R.fresh)
    · rcases g2.of R.nodup hq with e | ⟨hne, hm⟩
      · subst e
        exact ⟨_, _, hd', (he.mono tk').put (ru.mono tk'), (putA_keys nd).1⟩
      · exact (R.objs q hm).keep tk' fun o e => hs _ o hne (R.apart q hm).1 e
    · rcases g2.of R.nodup hq with e | ⟨hne, hm⟩
      · subst e; exact ap
      · exact R.apart q hm
theorem set_attr_at {x C d : Addr} {name : Str} {av : AV} {kvs kvs' : List (Str × AV)} {led' : Led} {gets sets : List Str} (O : a.Ok) (c : ClsOk C gets sets) (hn : sets.contains name = true) (g : GetO x (.inst C d) led) (g' : GetO d (.attrs kvs) led) (hz : kvs.length ≤ 900)
    (p : PutK name av kvs kvs') (g2 : SetO d (.attrs kvs') led led') (k : KU loc led') : SetAt a name (.ref x) av loc led KU := by
  intro s v u R rx ru
  obtain ⟨es, n, I, he, nd, hd⟩ := inst_at R g g'
  exact set_attr (kvs := kvs) O c hn g g' hz (p.putA nd ▸ g2) k s v u R rx ru
theorem set_attr_new {x C d : Addr} {name : Str} {av : AV} {kvs kvs' : List (Str × AV)} {led' : Led} {gets sets : List Str} (O : a.Ok) (c : ClsOk C gets sets) (hn : sets.contains name = true) (g : GetO x (.inst C d) led) (g' : GetO d (.attrs kvs) led) (hz : kvs.length ≤ 900)
    (p : (kvs.map (·.1)).contains name = false) (e : kvs ++ [(name, av)] = kvs') (g2 : SetO d (.attrs kvs') led led') (k : KU loc led') : SetAt a name (.ref x) av loc led KU := by
  refine set_attr (kvs := kvs) O c hn g g' hz ?_ k
  rw [putA_new (by simpa using p), e]; exact g2
noncomputable abbrev cSetAt (a : Act sc) (name : Str) (y : AV) (KU : KUn) : KV := fun x loc led => SetAt a name x y loc led KU
noncomputable abbrev cSetAt1 (a : Act sc) (o : Expr) (name : Str) (KU : KUn) : KV := fun y loc led => Ev a (eval o a.env) loc led (cSetAt a name y KU)
theorem Ex_AssignAttr {o : Expr} {attr : Str} {p' pos : Pos} {value : Expr} (hs : swapsWith value (some (.Attribute o attr p')) pos.line a.env = pure false)
    (h : Ev a (eval value a.env) loc led (cSetAt1 a o attr (cNextU KS))) : Ex a (exec (.Assign [.Attribute o attr p'] value pos) a.env) loc led KS := by
  intro s R
  refine plainObj_wpAny_Assign_Attribute (wpAny_mono (h s R) (fun v s₁ p => ?_) fun _ _ e => e) hs
  obtain ⟨y, l1, d1, k1, R1, t1, r1⟩ := p
  refine wpAny_mono (k1 s₁ R1) (fun u s₂ p => ?_) fun _ _ e => e
  obtain ⟨x, l2, d2, k2, R2, t2, r2⟩ := p
  refine wpAny_mono (k2 s₂ u v R2 r2 (r1.mono t2)) (fun _ s₃ p => ?_) fun _ _ e => e
  obtain ⟨l3, d3, k3, R3, t3⟩ := p
  exact (.inl ⟨.next, l3, d3, k3, R3, (t1.trans t2).trans t3, rfl⟩)
noncomputable abbrev cAug3 (a : Act sc) (name : Str) (x : AV) (KU : KUn) : KV := fun y loc led => SetAt a name x y loc led KU
noncomputable abbrev cAug2 (a : Act sc) (op : Operator) (value : Expr) (name : Str) (x : AV) (KU : KUn) : KV := fun old loc led => Ev a (eval value a.env) loc led (cOp2 a (inplaceOp op) old (cAug3 a name x KU))
noncomputable abbrev cAug1 (a : Act sc) (op : Operator) (value : Expr) (name : Str) (KU : KUn) : KV := fun x loc led => Op1 a (fun v => getAttr v name true) x loc led (cAug2 a op value name x KU)
theorem Ex_AugAttr {o value : Expr} {attr : Str} {tpos pos : Pos} {op : Operator} (h : Ev a (eval o a.env) loc led (cAug1 a op value attr (cNextU KS))) : Ex a (exec (.AugAssign (.Attribute o attr tpos) op value pos) a.env) loc led KS := by
  intro s R
  refine wpAny_AugAssign_AttributeAny (wpAny_mono (h s R) (fun ov s₁ p => ?_) fun _ _ e => e)
  obtain ⟨x, l1, d1, k1, R1, t1, r1⟩ := p
  refine wpAny_mono (k1 s₁ ov R1 r1) (fun old s₂ p => ?_) fun _ _ e => e
  obtain ⟨y, l2, d2, k2, R2, t2, r2⟩ := p
  refine wpAny_mono (k2 s₂ R2) (fun v s₃ p => ?_) fun _ _ e => e
  obtain ⟨z, l3, d3, k3, R3, t3, r3⟩ := p
  refine wpAny_mono (k3 s₃ old v R3 (r2.mono t3) r3) (fun u s₄ p => ?_) fun _ _ e => e
  obtain ⟨q, l4, d4, k4, R4, t4, r4⟩ := p
  refine wpAny_mono (k4 s₄ ov u R4 (((r1.mono t2).mono t3).mono t4) r4) (fun _ s₅ p => ?_) fun _ _ e => e
  obtain ⟨l5, d5, k5, R5, t5⟩ := p
  exact (.inl ⟨.next, l5, d5, k5, R5, (((t1.trans t2).trans t3).trans t4).trans t5, rfl⟩)

/-! ### methods of the text's classes -/
noncomputable def MethOk (C : Addr) (name : Str) (f : Addr) : Prop := ∀ w : World, (hasDictIn (KF w.params) C && plainGet (KF w.params) C Str.empty && (findIn (KF w.params) (.ref C) name == some (some (.ref f))) && isFn (KF w.params) (.ref f) && keepIn (KF w.params) (.ref f)) = true
noncomputable def MethI (a : Act sc) (name : Str) (args : List Expr) (pos : Pos) (K : KV) (x : AV) (loc : Loc) (led : Led) : Prop :=
  ∃ (y C d f : Addr) (kvs : List (Str × AV)), x = .ref y ∧ GetO y (.inst C d) led ∧ GetO d (.attrs kvs) led ∧ MethOk C name f ∧ (kvs.map (·.1)).contains name = false ∧
    EvL a args pos loc led fun xs loc led => OpL a (fun vs => call (.ref f) vs) (.ref y :: xs) loc led K
theorem MethI.mk {name : Str} {args : List Expr} {pos : Pos} {y C d f : Addr} {kvs : List (Str × AV)} (g : GetO y (.inst C d) led) (g' : GetO d (.attrs kvs) led) (m : MethOk C name f) (hn : (kvs.map (·.1)).contains name = false)
    (h : EvL a args pos loc led fun xs loc led => OpL a (fun vs => call (.ref f) vs) (.ref y :: xs) loc led K) : MethI a name args pos K (.ref y) loc led := ⟨y, C, d, f, kvs, rfl, g, g', m, hn, h⟩
theorem Ev_methI {o : Expr} {name : Str} {apos pos : Pos} {args : List Expr} {pl : Sem Bool} (O : a.Ok)
    (he : eval (.Call (.Attribute o name apos) args [] pos) a.env = (do
      let ov ← eval o a.env
      standAt apos.atName
      let (f, first) ← holding [ov] (getMethod ov name pl)
      callWith pos f first (backTo pos (starEach args a.env)) []))
    (hpl : (backTo pos (starEach args a.env)).any (·.1) = false) (h : Ev a (eval o a.env) loc led (fun x loc led => MethI a name args pos K x loc led)) : Ev a (eval (.Call (.Attribute o name apos) args [] pos) a.env) loc led K := by
  intro s R
  refine MethodCall_ (pl := pl) (wpAny_mono (h s R) (fun v s₁ p => ?_) fun _ _ e => e) he
  obtain ⟨x, l1, d1, ⟨y, C, d, f, kvs, rfl, g, g', m, hn, k1⟩, R1, t1, r1⟩ := p
  cases r1
  have hm := m a.w
  simp only [Bool.and_eq_true] at hm
  obtain ⟨⟨⟨⟨m1, m2⟩, m3⟩, m4⟩, m5⟩ := hm
  obtain ⟨es, n, I, he, nd, _⟩ := inst_at R1 g g'
  have X := O.glob.2.keeps R1.keep
  refine method_fn X I (plainGet_of (name := Str.empty) m2).1 (plainGet_of (name := Str.empty) m2).2 (beq_iff_eq.mp m3) (beq_iff_eq.mp m4) (by
    show (lookIn name (dictOf es n)).map _ = _
    rw [lookIn_dict, he.getN (by simpa using hn)]; rfl) ?_
  refine callWith_of (P := fun h => (KF a.w.params).In h) (by rw [hpl]; rfl) (keeps_K m5) (evalArgs_any hpl ?_)
  refine wpAny_mono (k1 s₁ R1) (fun vs s₂ p => ?_) fun _ _ e => e
  obtain ⟨xs, l2, d2, k2, R2, t2, r2⟩ := p
  exact ⟨O.glob.2.keeps R2.keep, wpAny_mono (k2 s₂ (.ref y :: vs) R2 (.cons rfl r2)) (fun _ _ p => p.from (t1.trans t2)) fun _ _ e => e⟩
/-- a method called by its class -/
noncomputable def MethC (C : Addr) (name : Str) (f : Addr) : Prop := ∀ w : World, ((specialIn (KF w.params) (.ref C) "__getattribute__" == some (some (.builtin "type.__getattribute__"))) && readsIn (KF w.params) C (.type "type") && (match findCls (KF w.params) (.ref C) (.type "type") name with | some (.val (.ref g)) => g == f | _ => false) && keepIn (KF w.params) (.ref f)) = true
theorem Ev_methC {C f : Addr} {x name : Str} {np apos pos : Pos} {args : List Expr} {pl : Sem Bool} (O : a.Ok) {gs : List (Str × Value)} (G : GOk sc gs) (g : GetG x (.ref C) gs) (m : MethC C name f)
    (he : eval (.Call (.Attribute (.Name x np) name apos) args [] pos) a.env = (do
      let ov ← eval (.Name x np) a.env
      standAt apos.atName
      let (f, first) ← holding [ov] (getMethod ov name pl)
      callWith pos f first (backTo pos (starEach args a.env)) []))
    (hpl : (backTo pos (starEach args a.env)).any (·.1) = false) (h : EvL a args pos loc led (cCall a (.ref f) K)) : Ev a (eval (.Call (.Attribute (.Name x np) name apos) args [] pos) a.env) loc led K := by
  intro s R
  refine MethodCall_ (pl := pl) (glob_at O R G g ?_) he
  have hm := m a.w
  simp only [Bool.and_eq_true] at hm
  obtain ⟨⟨⟨m1, m2⟩, m3⟩, m4⟩ := hm
  have X := O.glob.2.keeps R.keep
  refine method_cls X (beq_iff_eq.mp m1) ?_
  have hf : findCls (KF a.w.params) (.ref C) (.type "type") name = some (.val (.ref f)) := by
    split at m3
    · next g' e => rw [e, beq_iff_eq.mp m3]
    · cases m3
  refine cls_value X m2 hf rfl ?_
  refine callWith_of (P := fun h => (KF a.w.params).In h) (by rw [hpl]; rfl) (keeps_K m4) (evalArgs_any hpl ?_)
  refine wpAny_mono (h _ (R.toks (s.toks + 1))) (fun vs s₁ p => ?_) fun _ _ e => e
  obtain ⟨xs, l1, d1, k1, R1, t1, r1⟩ := p
  exact ⟨O.glob.2.keeps R1.keep, wpAny_mono (k1 s₁ vs R1 r1) (fun _ _ p => p.from t1) fun _ _ e => e⟩

noncomputable def MakeOk (C fI : Addr) : Prop := ∀ w : World, (makesIn (KF w.params) C && (findIn (KF w.params) (.ref C) "__init__" == some (some (.ref fI))) && isFn (KF w.params) (.ref fI) && keepIn (KF w.params) (.ref C)) = true
theorem make_inst {C fI : Addr} {n : Nat} {mk mk' : List Value → Args} {args : List AV} {led1 rest : Led} {R : Addr → Addr → AV → Led → Prop} (m : MakeOk C fI) (hmk : ∀ x vs, mk' (x :: vs) = ⟨x :: (mk vs).pos, (mk vs).kw⟩)
    (F : ∀ x d, FCX fI n mk' (.ref x :: args) ((x, .inst C d) :: (d, .attrs []) :: led1) (R x d) (fun _ => False)) (O : a.Ok) (H : a.hd = true) (hn : n < a.room) (h0 : 0 < n) (p : PickO led led1 rest)
    (k : ∀ x d av led', R x d av led' → av = .none ∧ Appd led' rest (K (.ref x) loc)) : OpL a (fun vs => call (.ref C) (mk vs).pos (mk vs).kw) args loc led K := by
  intro s vs R0 r
  have hm := m a.w
  simp only [Bool.and_eq_true] at hm
  obtain ⟨⟨⟨m1, m2⟩, m3⟩, m4⟩ := hm
  have X := O.glob.2.keeps R0.keep
  obtain ⟨hh, gg, dd, tt, oo⟩ := s
  refine wpAny_call (make_core (makes_of X m1) (looks_findIn X (beq_iff_eq.mp m2)) (fun self => bind_fn X self (beq_iff_eq.mp m3)) (.inl rfl) ?_)
  let d := hh.objs.size
  obtain ⟨R1, t1⟩ := R0.alloc O (o := { cls := .type "dict", data := .dict #[] }) (x := .attrs []) ⟨[], 0, Heap.get?_push_size _ rfl, rfl, List.nodup_nil⟩ tt
  obtain ⟨R2, t2⟩ := R1.alloc O (o := { cls := .ref C, dict := some d, data := .plain }) (x := .inst C d) (Heap.get?_push_size _ rfl) tt
  have hx : (hh.push { cls := .type "dict", data := .dict #[] }).objs.size = d + 1 := Heap.size_push ..
  dsimp only at R1 R2 t1 t2
  rw [hx] at R2
  have R3 : Rep a loc (((d + 1, AO.inst C d) :: (d, .attrs []) :: led1) ++ rest) _ := R2.perm (List.Perm.cons _ (List.Perm.cons _ p.perm))
  have hnd := R3.nodup
  rw [List.map_append, List.nodup_append] at hnd
  have hin : ∀ p ∈ ((d + 1, AO.inst C d) :: (d, .attrs []) :: led1), p ∈ (((d + 1, AO.inst C d) :: (d, .attrs []) :: led1) ++ rest) := fun p hp => List.mem_append_left _ hp
  have := F (d + 1) d (w := a.w) (mg := a.mg) (mb := a.mb) (A := a.A.under (.builtin "type.__call__" ⟨.ref C :: (mk vs).pos, (mk vs).kw⟩)) (E := a.E) (vs := .ref (d + 1) :: vs) (g := a.h₀) O.glob R3.keep (fun p hp => ⟨R3.objs p (hin p hp), (R3.apart p (hin p hp)).2⟩) hnd.1 ?_ ?_ (.cons rfl (r.mono (t1.trans t2))) (fun l e s' _ h => h.no.elim)
  · rw [hmk] at this
    refine codeAny_mono this fun rr s' z => ?_
    unfold InitBack
    rcases rr with e | (v | _ | _ | _)
    · exact z
    all_goals first | exact z.elim | skip
    obtain ⟨av, l2, d2, ⟨e1, k2⟩, R4, t4, r4⟩ := FPost.back (args := args) (K := fun av l dd => av = .none ∧ K (.ref (d + 1)) l dd) R3 (fun av led' hR => ⟨(k (d + 1) d av led' hR).1, (k (d + 1) d av led' hR).2.out⟩) z
    subst e1
    exact ⟨r4, .ref (d + 1), l2, d2, k2, R4, (t1.trans t2).trans t4, rfl⟩
  · have hr := O.room
    refine ⟨fun _ => hr.1 H, ?_, ?_, h0⟩
    · have : (a.A.under (.builtin "type.__call__" ⟨.ref C :: (mk vs).pos, (mk vs).kw⟩)).depth ≤ a.A.depth + 1 := by
        show a.A.depth + _ ≤ _
        exact Nat.add_le_add_left (Nat.le_of_ble_eq_true rfl) _
      have := hr.2.1; omega
    · have : (a.A.under (.builtin "type.__call__" ⟨.ref C :: (mk vs).pos, (mk vs).kw⟩)).units ≤ a.A.units + 10 := by
        show a.A.units + _ ≤ _
        exact Nat.add_le_add_left (Nat.le_of_ble_eq_true rfl) _
      have := hr.2.2.1; omega
  · obtain ⟨l, hl, hf⟩ := (R3.frOk O).mono (Q := fun L => Plain _ L ∧ L ∉ ((d + 1, AO.inst C d) :: (d, .attrs []) :: led1).map (·.1)) fun L hL => ⟨hL.1, fun hm => hL.2 (by rw [List.map_append]; exact List.mem_append_left _ hm)⟩
    exact ⟨l, hl, hf⟩
end

end

section
open PySem PySem.W PyProof.Rows
theorem neg_toNat (n : Nat) : ((-1 : Int) + (n : Nat)).toNat = n - 1 := by omega
theorem neg_in {n : Nat} (h : 0 < n) : (0 : Int) ≤ -1 + (n : Nat) := by omega
theorem pred_toNat {n : Nat} (h : 0 < n) : ((n : Int) - 1).toNat = n - 1 := by omega
theorem pred_pos {n : Nat} (h : 0 < n) : 0 ≤ ((n : Int) - 1) := by omega
theorem pred_lt {n : Nat} (h : n < 1000000) : ((n : Int) - 1) < 2 ^ 63 := by omega
section
variable {sc : Scope} {a : Act sc} {loc : Loc} {led : Led} {s : Shared} {K : KV} {KS : KSt} {KB : KBo} {KL : KLi} {KU : KUn}

/-! ### is -/
noncomputable def AV.isNone : AV → Bool | .none => true | _ => false
theorem rel_none {h : Heap} {x : AV} {v : Value} (r : Rel h x v) : (v == Value.none) = x.isNone := by
  cases x with
  | none => cases r; rfl
  | bool b => cases r; rfl
  | int i => obtain ⟨t, rfl⟩ := r; rfl
  | str y => obtain ⟨t, rfl⟩ := r; rfl
  | ref y => cases r; rfl
  | ty T => cases r; rfl
  | tup xs => unfold Rel at r; obtain ⟨d, vs, rfl, _⟩ := r; rfl
theorem is_n {x : AV} (k : K (.bool x.isNone) loc led) : Op2 a (compareOp .Is) x .none loc led K := by
  rintro s v u R r rfl
  exact is_none_gen (by rw [rel_none r]; exact .here k R rfl)
theorem isnot_n {x : AV} (k : K (.bool (!x.isNone)) loc led) : Op2 a (compareOp .IsNot) x .none loc led K := by
  rintro s v u R r rfl
  exact isnot_none_gen (by rw [rel_none r]; exact .here k R rfl)

/-! ### lists -/
theorem led_list {d : Addr} {xs : List AV} (R : Rep a loc led s) (g : GetO d (.list xs) led) : ∃ vs, s.heap.IsList d (List.toArray vs) ∧ RelL s.heap xs vs ∧ vs.length = xs.length := by
  obtain ⟨vs, n, e, hr⟩ := R.objs _ g.mem
  exact ⟨vs, ⟨_, e, rfl, n, rfl⟩, hr, hr.length⟩
theorem units_lt (O : a.Ok) : a.A.units < cLine := by have := O.room.2.2.1; have := O.room.2.2.2; omega
theorem eq_nil {d e : Addr} {xs : List AV} (O : a.Ok) (g : GetO d (.list xs) led) (g' : GetO e (.list []) led) (k : K (.bool xs.isEmpty) loc led) : Op2 a (compareOp .Eq) (.ref d) (.ref e) loc led K := by
  rintro s v u R rfl rfl
  obtain ⟨vs, h1, hr, hl⟩ := led_list R g
  obtain ⟨ws, h2, _, hl'⟩ := led_list R g'
  have e2 : ws.toArray.size = 0 := by simpa using hl'
  have e1 : vs.toArray.size = xs.length := by simpa using hl
  cases xs with
  | nil => exact SeqAt.eq_listAt (e := fun _ => true) h1 h2 (by rw [e1, e2]; rfl) (units_lt O) (fun j h1 h2 => absurd h2 (by rw [e2]; exact Nat.not_lt_zero _)) (by
      rw [show (List.range vs.toArray.size).all (fun _ => true) = true from by simp]
      exact .here k R rfl)
  | cons x xs => exact SeqAt.eq_list_lengthsAt h1 h2 (by rw [e1, e2]; simp) (units_lt O) (.here k R rfl)
theorem ne_nil {d e : Addr} {xs : List AV} (O : a.Ok) (g : GetO d (.list xs) led) (g' : GetO e (.list []) led) (k : K (.bool (!xs.isEmpty)) loc led) : Op2 a (compareOp .NotEq) (.ref d) (.ref e) loc led K := by
  rintro s v u R rfl rfl
  obtain ⟨vs, h1, hr, hl⟩ := led_list R g
  obtain ⟨ws, h2, _, hl'⟩ := led_list R g'
  have e2 : ws.toArray.size = 0 := by simpa using hl'
  have e1 : vs.toArray.size = xs.length := by simpa using hl
  cases xs with
  | nil => exact EqBoolInt.of_rcne (SeqAt.RcNeAt.lists (e := fun _ => true) h1 h2 (by rw [e1, e2]; rfl) (units_lt O) (fun j h1 h2 => absurd h2 (by rw [e2]; exact Nat.not_lt_zero _))) (by
      rw [show (List.range vs.toArray.size).all (fun _ => true) = true from by simp]
      exact .here k R rfl)
  | cons x xs => exact EqBoolInt.of_rcne (SeqAt.RcNeAt.lists_lengths h1 h2 (by rw [e1, e2]; simp) (units_lt O)) (.here k R rfl)
noncomputable def AV.flat : AV → Bool | .none => true | .int _ => true | .str _ => true | .bool _ => true | _ => false
theorem eq_flat {A : Around} {h : Heap} {x : AV} {v u : Value} (hx : x.flat = true) (r1 : Rel h x v) (r2 : Rel h x u) : SeqAt.EqAt A s v u true := by
  cases x with
  | none => cases r1; cases r2; exact SeqAt.EqAt.same _
  | bool b => cases r1; cases r2; exact SeqAt.EqAt.same _
  | int i =>
    obtain ⟨t, rfl⟩ := r1; obtain ⟨t', rfl⟩ := r2
    have := SeqAt.EqAt.int_int (A := A) (s := s) i t i t'
    rwa [beq_self_eq_true] at this
  | str y =>
    obtain ⟨t, rfl⟩ := r1; obtain ⟨t', rfl⟩ := r2
    have := SeqAt.EqAt.str_str (A := A) (s := s) y t y t'
    rwa [beq_self_eq_true] at this
  | ref y => cases hx
  | ty T => cases hx
  | tup xs => cases hx
theorem eq_same {d e : Addr} {xs : List AV} (O : a.Ok) (g : GetO d (.list xs) led) (g' : GetO e (.list xs) led) (hf : xs.all (·.flat) = true) (k : K (.bool true) loc led) : Op2 a (compareOp .Eq) (.ref d) (.ref e) loc led K := by
  rintro s v u R rfl rfl
  obtain ⟨vs, h1, hr, hl⟩ := led_list R g
  obtain ⟨ws, h2, hr', hl'⟩ := led_list R g'
  refine SeqAt.eq_listAt (e := fun _ => true) h1 h2 (by simp [hl, hl']) (units_lt O) (fun j h1 h2 => ?_) ?_
  · have hj : j < xs.length := by rw [← hl]; simpa using h1
    obtain ⟨v, ev, rv⟩ := hr.get (show xs[j]? = some xs[j] by simp [hj])
    obtain ⟨u, eu, ru⟩ := hr'.get (show xs[j]? = some xs[j] by simp [hj])
    have e1 : vs.toArray[j] = v := by
      have := (List.getElem?_eq_some_iff.mp ev).2; simpa using this
    have e2 : ws.toArray[j] = u := by
      have := (List.getElem?_eq_some_iff.mp eu).2; simpa using this
    rw [e1, e2]
    exact eq_flat (List.all_eq_true.mp hf _ (List.getElem_mem hj)) rv ru
  · rw [show (List.range vs.toArray.size).all (fun _ => true) = true from by simp]
    exact .here k R rfl
theorem eq_nn (k : K (.bool true) loc led) : Op2 a (compareOp .Eq) .none .none loc led K := by
  rintro s v u R rfl rfl
  exact EqBoolInt.of_rc SeqAt.RcAt.none_none (.here k R rfl)
theorem eq_tib {i j : Int} {b c : Bool} (O : a.Ok) (k : K (.bool (i == j && b == c)) loc led) : Op2 a (compareOp .Eq) (.tup [.int i, .bool b]) (.tup [.int j, .bool c]) loc led K := by
  rintro s v u R r r'
  unfold Rel at r r'
  obtain ⟨d, vs, rfl, ht, hr⟩ := r
  obtain ⟨e, ws, rfl, ht', hr'⟩ := r'
  obtain ⟨v1, v2, rfl, ⟨t, rfl⟩, rfl⟩ := hr.two
  obtain ⟨u1, u2, rfl, ⟨t', rfl⟩, rfl⟩ := hr'.two
  refine SeqAt.eq_tupleAt (e := fun n => if n = 0 then i == j else b == c) ht ht' (units_lt O) (fun n h1 h2 => ?_) ?_
  · match n, h1 with
    | 0, _ => exact SeqAt.EqAt.int_int i t j t'
    | 1, _ => exact SeqAt.EqAt.bool_bool b c
  · have : ((List.range (min (#[Value.int i t, .bool b] : Array Value).size (#[Value.int j t', .bool c] : Array Value).size)).all (fun n => if n = 0 then i == j else b == c) && (#[Value.int i t, .bool b] : Array Value).size == (#[Value.int j t', .bool c] : Array Value).size) = (i == j && b == c) := by
      simp [List.range_succ]
    show Post a s.heap K (.bool _) s
    rw [this]
    exact .here k R rfl
/-- all but the locals' dict kept -/
theorem Rep.news (R : Rep a loc led s) {m : Str → Option Value} {h' : Heap} (hm : s.heap.Ns a.L m) (F' : h'.Ns a.L m) (hk : ∀ b o, b ≠ a.L → s.heap.get? b = some o → h'.get? b = some o) (tk : Nat) : Rep a loc led { s with heap := h', toks := tk } ∧ TK s.heap h' := by
  obtain ⟨m', ns, l⟩ := R.ns
  have tk' : TK s.heap h' := fun b vs ht => by
    by_cases hL : b = a.L
    · exact absurd (hL ▸ ht) (ns_tup ns vs)
    · obtain ⟨o, e, r⟩ := ht; exact ⟨o, hk b o hL e, r⟩
  have em : m' = m := by
    obtain ⟨o, es, ep, e, hd, _, hm⟩ := hm
    obtain ⟨o', es', ep', e', hd', _, hm'⟩ := ns
    rw [e] at e'; cases e'; rw [hd] at hd'; cases hd'
    funext z; rw [← hm z, ← hm' z]
  subst em
  refine ⟨⟨R.gens, R.os, fun b o eb => hk b o (fun q => ?_) (R.keep b o eb), ⟨_, F', fun x bv hx => let ⟨v', e', r'⟩ := l x bv hx; ⟨v', e', r'.mono tk'⟩⟩, R.keys, R.kinds, fun q hq => (R.objs q hq).keep tk' fun o e => hk _ o (R.apart q hq).1 e, R.apart, R.nodup, R.fresh⟩, tk'⟩
  exact gone2 q eb (R.fresh)
theorem Rep.new (R : Rep a loc led s) {d : Addr} {x : AO} {s' : Shared} (R' : Rep a loc led s') (hd : s.heap.get? d = none) (ho : ObjIs a.w s'.heap d x) (hg : mainGlobals < d) : Rep a loc ((d, x) :: led) s' := by
  refine ⟨R'.gens, R'.os, R'.keep, R'.ns, R'.keys, R'.kinds, fun p hp => ?_, fun p hp => ?_, ?_, R'.fresh⟩
  · rcases List.mem_cons.mp hp with rfl | hp
    · exact ho
    · exact R'.objs p hp
  · rcases List.mem_cons.mp hp with rfl | hp
    · refine ⟨fun e => ?_, ?_, hg⟩
      · obtain ⟨m, ns, _⟩ := R.ns
        obtain ⟨o, es, ep, e', _⟩ := ns
        rw [show d = a.L from e, e'] at hd; cases hd
      · cases q : a.h₀.get? d with
        | none => rfl
        | some o => exact gone (R.keep _ _ q) hd
    · exact R'.apart p hp
  · rw [List.map_cons, List.nodup_cons]
    refine ⟨fun hm => ?_, R'.nodup⟩
    obtain ⟨p, hp, e⟩ := List.mem_map.mp hm
    obtain ⟨o', eo, _⟩ := (R.objs p hp).there
    rw [e, hd] at eo; cases eo
theorem size_mg (O : a.Ok) (R : Rep a loc led s) : mainGlobals < s.heap.objs.size := (O.glob.1.g.keeps R.keep).lt
theorem all_fr (m : Str → Option Value) (R : Rep a loc led s) (hm : s.heap.Ns a.L m) : Fr noHeap a.L s.heap m ∧ News noHeap a.L s.heap (allNews s.heap a.L a.L) :=
  ⟨⟨hm, (fun b o e => by rw [noHeap_get] at e; cases e), Nat.zero_le _⟩, fun p hp => let ⟨h1, h2, _⟩ := allNews_of hp; ⟨h1, h2, noHeap_get _⟩⟩
theorem add_ll {d e : Addr} {xs ys : List AV} (O : a.Ok) (g : GetO d (.list xs) led) (g' : GetO e (.list ys) led) (hz : xs.length + ys.length ≤ 1000000) (k : ∀ r, K (.ref r) loc ((r, .list (xs ++ ys)) :: led)) : Op2 a (binaryOp .Add) (.ref d) (.ref e) loc led K := by
  rintro s v u R rfl rfl
  obtain ⟨vs, h1, hr, hl⟩ := led_list R g
  obtain ⟨ws, h2, hr', hl'⟩ := led_list R g'
  obtain ⟨m, ns, _⟩ := id R.ns
  obtain ⟨F, N⟩ := all_fr m R ns
  refine PyProof.Rows.add_lists F N h1 h2 (fun h' F' N' => ?_) (by rw [hl, hl']; exact Nat.le_trans hz (by decide))
  obtain ⟨R', t'⟩ := R.news ns F'.ns (fun b o hb e => (N' (b, o) (.tail _ (allNews_mem e hb hb))).1) s.toks
  have hd := (N' _ (.head _)).1
  exact ⟨_, loc, _, k s.heap.objs.size, R.new R' (fresh_get _) ⟨vs ++ ws, 0, hd, RelL.append (hr.mono t') (hr'.mono t')⟩ (size_mg O R), t', rfl⟩
theorem in_l {d : Addr} {i : Int} {ns : List Int} (g : GetO d (.list (ns.map .int)) led) (k : K (.bool (ns.contains i)) loc led) : Op2 a (compareOp .In) (.int i) (.ref d) loc led K := by
  rintro s v u R ⟨t, rfl⟩ rfl
  obtain ⟨vs, h1, hr, hl⟩ := led_list R g
  have hI := relL_ints hr
  have key : ∀ {vs : List Value} {ns : List Int}, IntsAre vs ns → kf_ints vs = true ∧ vs.any (isInt i) = ns.contains i := by
    intro vs ns h
    induction h with
    | nil => exact ⟨rfl, rfl⟩
    | cons n t _ ih =>
      refine ⟨by unfold kf_ints; exact ih.1, ?_⟩
      rw [List.any_cons, ih.2, List.contains_cons]
      congr 1
      show (n == i) = (i == n)
      exact Bool.beq_comm
  obtain ⟨k1, k2⟩ := key hI
  exact SeqInW.in_listW (isInt i) (fun y hy => kf_eq k1 y (by simpa using hy)) h1 (by rw [← Array.any_toList]; show Post a s.heap K (.bool (vs.any (isInt i))) s; rw [k2]; exact .here k R rfl)
theorem notin_l {d : Addr} {i : Int} {ns : List Int} (g : GetO d (.list (ns.map .int)) led) (k : K (.bool (!ns.contains i)) loc led) : Op2 a (compareOp .NotIn) (.int i) (.ref d) loc led K := by
  rintro s v u R ⟨t, rfl⟩ rfl
  obtain ⟨vs, h1, hr, hl⟩ := led_list R g
  have hI := relL_ints hr
  have key : ∀ {vs : List Value} {ns : List Int}, IntsAre vs ns → kf_ints vs = true ∧ vs.any (isInt i) = ns.contains i := by
    intro vs ns h
    induction h with
    | nil => exact ⟨rfl, rfl⟩
    | cons n t _ ih =>
      refine ⟨by unfold kf_ints; exact ih.1, ?_⟩
      rw [List.any_cons, ih.2, List.contains_cons]
      congr 1
      show (n == i) = (i == n)
      exact Bool.beq_comm
  obtain ⟨k1, k2⟩ := key hI
  exact SeqInW.notIn_listW (isInt i) (fun y hy => kf_eq k1 y (by simpa using hy)) h1 (by rw [← Array.any_toList]; show Post a s.heap K (.bool (!vs.any (isInt i))) s; rw [k2]; exact .here k R rfl)
theorem index_l {d : Addr} {i : Int} {ns : List Int} (g : GetO d (.list (ns.map .int)) led) (hi : i ∈ ns) (hz : ns.length ≤ 1000000) (k : K (.int (ns.idxOf i : Nat)) loc led) : OpL a (fun vs => call (.builtin "list.index") vs) [.ref d, .int i] loc led K := by
  intro s vs R r
  obtain ⟨v, u, rfl, rfl, ⟨t, rfl⟩⟩ := r.two
  obtain ⟨ws, n, e, hr⟩ := R.objs _ g.mem
  have hI := relL_ints hr
  have key : ∀ {vs : List Value} {ns : List Int}, IntsAre vs ns → kf_ints vs = true ∧ (i ∈ ns → kf_at i vs = some (ns.idxOf i)) := by
    intro vs ns h
    induction h with
    | nil => exact ⟨rfl, fun h => nomatch h⟩
    | cons n t _ ih =>
      refine ⟨by unfold kf_ints; exact ih.1, fun hm => ?_⟩
      unfold kf_at
      by_cases hn : n = i
      · subst hn
        rw [show isInt n (.int n t) = true from by show (n == n) = true; simp]
        simp
      · rw [show isInt i (.int n t) = false from by show (n == i) = false; simpa using hn]
        have := ih.2 (by rcases List.mem_cons.mp hm with e | h; exact absurd e.symm hn; exact h)
        rw [this, List.idxOf_cons]
        rw [show (n == i) = false from by simpa using hn]
        rfl
  obtain ⟨k1, k2⟩ := key hI
  have hz' : ws.length ≤ sizeLine := by
    have := hr.length
    rw [List.length_map] at this
    rw [this]; exact Nat.le_trans hz (by decide)
  have hN : News noHeap a.L s.heap [(d, listOf ws.toArray n)] := fun p hp => by
    rw [List.mem_singleton.mp hp]
    exact ⟨e, (R.apart _ g.mem).1, noHeap_get _⟩
  exact kf_index hN (.head _) (by simpa using k1) (by simpa using k2 hi) rfl (by simpa using hz') (.toks k R ⟨_, rfl⟩ _)
theorem sub_list_last {value slice : Expr} {d : Addr} {xs : List AV} {x : AV} (g : GetO d (.list xs) led) (hx : xs.getLast? = some x) (hz : xs.length ≤ 1000000)
    (hs : ∀ t, subscripted slice false (.ref d) (.int (-1) t) = operate [.ref d, .int (-1) t] (getItem (.ref d) (.int (-1) t))) (k : K x loc led) : Op2 a (subscriptTail value slice) (.ref d) (.int (-1)) loc led K := by
  rintro s v u R rfl ⟨t, rfl⟩
  obtain ⟨vs, h1, hr, hl⟩ := led_list R g
  have hne : xs ≠ [] := by rintro rfl; cases hx
  have hpos : 0 < xs.length := List.length_pos_iff.mpr hne
  have hx' : xs[xs.length - 1]? = some x := by rw [← List.getLast?_eq_getElem?]; exact hx
  obtain ⟨v, ev, rv⟩ := hr.get hx'
  have hsz : vs.toArray.size = xs.length := by simpa using hl
  refine tail_any h1.typeIs slot_list_getitem.lookup (wpAny_getItem_list_neg h1 (by decide) (by rw [hsz]; omega) (by decide) ?_ (.here k R rv)) (hs t)
  have : ((-1 : Int) + (vs.toArray.size : Nat)).toNat = xs.length - 1 := by rw [hsz]; exact neg_toNat _
  rw [this]
  simpa using ev
end

end

section
open PySem PySem.W PyProof.Rows
section
variable {sc : Scope} {a : Act sc} {loc : Loc} {led : Led} {s : Shared} {K : KV} {KS : KSt} {KB : KBo} {KL : KLi} {KU : KUn}

/-! ### slices -/
/-- a bound of a slice -/
noncomputable def EvP (a : Act sc) (x : Option Expr) (loc : Loc) (led : Led) (K : Option Int → Loc → Led → Prop) : Prop := match x with
  | none => K none loc led
  | some e => Ev a (eval e a.env) loc led fun av loc led => ∃ i, av = .int i ∧ K (some i) loc led
theorem evP_none {K : Option Int → Loc → Led → Prop} (h : K none loc led) : EvP a none loc led K := h
theorem evP_some {e : Expr} {K : Option Int → Loc → Led → Prop} (h : Ev a (eval e a.env) loc led fun av loc led => ∃ i, av = .int i ∧ K (some i) loc led) : EvP a (some e) loc led K := h
theorem EvP.run {x : Option Expr} {K : Option Int → Loc → Led → Prop} (h : EvP a x loc led K) (R : Rep a loc led s) {Q : Value → Shared → Prop}
    (hQ : ∀ l loc led s', K (l.map (·.1)) loc led → Rep a loc led s' → TK s.heap s'.heap → Q (partValue l) s') : wpAny a.M a.A (evalPart x a.env) Q a.E s := by
  cases x with
  | none => rw [evalPart_none]; exact wpAny_pure (hQ none loc led s h R (.refl _))
  | some e =>
    rw [evalPart_some]
    refine wpAny_mono (h s R) (fun v s₁ p => ?_) fun _ _ e => e
    obtain ⟨x, l1, d1, ⟨i, rfl, k1⟩, R1, t1, ⟨t, rfl⟩⟩ := p
    exact hQ (some (i, t)) l1 d1 s₁ k1 R1 t1
noncomputable abbrev cSl3 (y : Str) (l : Option Int) (K : KV) : Option Int → Loc → Led → Prop := fun u loc led => y.length ≤ 1000000 ∧ K (.str (Txt.slice y l u)) loc led
noncomputable abbrev cSl2 (a : Act sc) (upper : Option Expr) (y : Str) (K : KV) : Option Int → Loc → Led → Prop := fun l loc led => EvP a upper loc led (cSl3 y l K)
theorem Ev_SliceS {value : Expr} {lower upper : Option Expr} {p pos : Pos} (ht : ∀ o r, letTemporaryGo value o r = pure ())
    (h : Ev a (eval value a.env) loc led fun x loc led => ∃ y, x = .str y ∧ EvP a lower loc led (cSl2 a upper y K)) : Ev a (eval (.Subscript value (.Slice lower upper none p) pos) a.env) loc led K := by
  intro s R
  refine wpAny_Subscript_str_slice (wpAny_mono (h s R) (fun o s₁ p => ?_) fun _ _ e => e) ht
  obtain ⟨x, l1, d1, ⟨y, rfl, k1⟩, R1, t1, ⟨t, rfl⟩⟩ := p
  refine k1.run R1 fun l l2 d2 s₂ k2 R2 t2 => ?_
  refine k2.run R2 fun u l3 d3 s₃ k3 R3 t3 => ?_
  refine ⟨y, t, l, u, rfl, rfl, rfl, ?_⟩
  have hk : ∀ b o', s₃.heap.get? b = some o' → (s₃.heap.push { cls := .type "slice", data := .fields #[partValue l, partValue u, .none] }).get? b = some o' := fun b o' e => Heap.get?_push_of_some _ e
  have hsz : (Txt.slice y (l.map (·.1)) (u.map (·.1))).length ≤ sizeLine := Nat.le_trans (Txt.slice_le y _ _) (Nat.le_trans k3.1 (by decide))
  exact post_val_or_str ⟨hsz, fun t' k => ⟨_, l3, d3, k3.2, R3.grow hk _ s₃.drawn, ((t1.trans t2).trans t3).trans (TK.keeps hk), _, rfl⟩⟩
theorem RelL.drop {h : Heap} : ∀ {xs : List AV} {vs : List Value}, RelL h xs vs → ∀ n, RelL h (xs.drop n) (vs.drop n)
  | _, _, r, 0 => r
  | [], _, r, n + 1 => by unfold RelL at r; subst r; exact .nil
  | x :: xs, _, r, n + 1 => by
    unfold RelL at r
    obtain ⟨v, q, rfl, _, r2⟩ := r
    exact RelL.drop r2 n
/-- xs[i:] -/
theorem Ev_SliceFrom {value lower : Expr} {p pos : Pos} (O : a.Ok) (ht : ∀ o r, letTemporaryGo value o r = pure ())
    (h : Ev a (eval value a.env) loc led fun x loc led => ∃ d xs, x = .ref d ∧ EvP a (some lower) loc led fun l loc led => ∃ i : Nat, l = some (i : Int) ∧ GetO d (.list xs) led ∧ i ≤ xs.length ∧ xs.length ≤ 1000000 ∧ ∀ r, K (.ref r) loc ((r, .list (xs.drop i)) :: led)) :
    Ev a (eval (.Subscript value (.Slice (some lower) none none p) pos) a.env) loc led K := by
  intro s R
  refine wpAny_Subscript_list_slice (wpAny_mono (h s R) (fun o s₁ p => ?_) fun _ _ e => e) ht
  obtain ⟨x, l1, d1, ⟨d, xs, rfl, k1⟩, R1, t1, rfl⟩ := p
  refine k1.run R1 fun l l2 d2 s₂ k2 R2 t2 => ?_
  rw [evalPart_none]
  refine wpAny_pure ?_
  obtain ⟨i, e, g, hi, hz, k⟩ := k2
  obtain ⟨vs, h1, hr, hl⟩ := led_list R2 g
  cases l with
  | none => cases e
  | some q =>
    obtain ⟨j, t⟩ := q
    cases e
    refine ⟨d, vs.toArray, some (i : Int), none, rfl, h1, by simp [hl]; exact Nat.le_trans hz (by decide), .int _ _, .none, ?_⟩
    have hk : ∀ b o', s₂.heap.get? b = some o' → (s₂.heap.push { cls := .type "slice", data := .fields #[partValue (some ((i : Int), t)), .none, .none] }).get? b = some o' := fun b o' e => Heap.get?_push_of_some _ e
    have R3 := R2.grow hk s₂.toks s₂.drawn
    rw [slicePick_from vs.toArray i (by simp [hl]; exact hi)]
    obtain ⟨R4, t4⟩ := R3.alloc O (o := { cls := .type "list", data := .seq (vs.drop i).toArray }) (x := .list (xs.drop i)) ⟨vs.drop i, 0, Heap.get?_push_size _ rfl, (hr.mono (TK.keeps fun b o' e => Heap.get?_push_of_some _ (hk b o' e))).drop i⟩ s₂.toks
    refine ⟨_, l2, _, k (s₂.heap.objs.size + 1), ?_, (t1.trans t2).trans ((TK.keeps hk).trans t4), rfl⟩
    have := R4
    rw [show (s₂.heap.push { cls := .type "slice", data := .fields #[partValue (some ((i : Int), t)), .none, .none] }).objs.size = s₂.heap.objs.size + 1 from Heap.size_push ..] at this
    exact this

/-! ### dicts of ints -/
theorem mods {d : Addr} (h : mainGlobals < d) : (d == sysModules) = false := by
  have : d ≠ sysModules := fun e => by rw [e] at h; exact absurd h (by decide)
  simpa using this
theorem Ev_DictE {pos : Pos} (O : a.Ok) (k : ∀ d, K (.ref d) loc ((d, .dI []) :: led)) : Ev a (eval (.Dict [] [] pos) a.env) loc led K := by
  intro s R
  refine wpAny_Dict_empty ?_
  obtain ⟨R', t'⟩ := R.alloc O (o := { cls := .type "dict", data := .dict #[] }) (x := .dI []) ⟨[], Heap.DictOf.new s.heap, rfl⟩ s.toks
  exact ⟨_, loc, _, k s.heap.objs.size, R', t', rfl⟩
theorem in_dI {d : Addr} {i : Int} {kvs : List (Int × AV)} (g : GetO d (.dI kvs) led) (k : K (.bool (kvs.lookup i).isSome) loc led) : Op2 a (compareOp .In) (.int i) (.ref d) loc led K := by
  rintro s v u R ⟨t, rfl⟩ rfl
  obtain ⟨vs, hd, hr⟩ := R.objs _ g.mem
  refine wpAny_in_of (intKind_is PW a.w i t) (mods (R.apart _ g.mem).2.2) hd.mapOf ?_
  have : (valueAt vs i).isSome = (kvs.lookup i).isSome := by
    cases hl : kvs.lookup i with
    | none => rw [hr.find_none hl]; rfl
    | some x => obtain ⟨v, e, _⟩ := hr.find hl; rw [e]; rfl
  rw [this]
  exact .toks k R rfl _
theorem set_dI {d : Addr} {x : Int} {kvs kvs' : List (Int × AV)} {av : AV} {led' : Led} (g : GetO d (.dI kvs) led) (p : storedA kvs x av = kvs') (g' : SetO d (.dI kvs') led led') (hz : kvs.length ≤ 1000000) (k : KU loc led') :
    SetA a av (.ref d) (.int x) loc led KU := by
  rintro s v u t R rv rfl ⟨t, rfl⟩
  obtain ⟨vs, hd, hr⟩ := R.objs _ g.mem
  refine wpAny_setItem_pairs (intKind_is PW a.w x t) hd (fun h' hd' hs => ?_) (by rw [hr.length]; exact Nat.le_trans hz (by decide))
  obtain ⟨o, eo, hn⟩ := (R.objs _ g.mem).there
  have tk : TK s.heap h' := TK.but hs hn
  obtain ⟨R', t'⟩ := R.change g' (tk := s.toks + 1) hs ⟨_, hd', p ▸ (hr.stored rv).mono tk⟩
  exact ⟨loc, led', k, R', t'⟩
theorem get_dI {d : Addr} {i : Int} {kvs : List (Int × AV)} {x : AV} (g : GetO d (.dI kvs) led) (k : K ((kvs.lookup i).getD x) loc led) : OpL a (fun vs => call (.builtin "dict.get") vs) [.ref d, .int i, x] loc led K := by
  intro s vs R r
  obtain ⟨v, u, z, rfl, rfl, ⟨t, rfl⟩, rz⟩ := r.three
  obtain ⟨ws, hd, hr⟩ := R.objs _ g.mem
  refine call_meetsIn PySem.F.slot_dict_get hd.mapOf.typeIs PySem.F.entry_dict_get (PySem.F.args_dict_get_3 _ _ _) (meets_dict_get_default (intKind PW a.w) d (intKind_is PW a.w i t) (mods (R.apart _ g.mem).2.2) z) ⟨_, hd.mapOf, ?_⟩
  show Post a s.heap K _ _
  cases hl : kvs.lookup i with
  | none =>
    rw [hl] at k
    rw [hr.find_none hl]
    exact .toks k R rz _
  | some y =>
    rw [hl] at k
    obtain ⟨v, e, rv⟩ := hr.find hl
    rw [e]
    exact .toks k R rv _
theorem get_dI2 {d : Addr} {i : Int} {kvs : List (Int × AV)} (g : GetO d (.dI kvs) led) (k : K ((kvs.lookup i).getD .none) loc led) : OpL a (fun vs => call (.builtin "dict.get") vs) [.ref d, .int i] loc led K := by
  intro s vs R r
  obtain ⟨v, u, rfl, rfl, ⟨t, rfl⟩⟩ := r.two
  obtain ⟨ws, hd, hr⟩ := R.objs _ g.mem
  refine call_meetsIn PySem.F.slot_dict_get hd.mapOf.typeIs PySem.F.entry_dict_get (PySem.F.args_dict_get_2 _ _) (meets_dict_get (intKind PW a.w) d (intKind_is PW a.w i t) (mods (R.apart _ g.mem).2.2)) ⟨_, hd.mapOf, ?_⟩
  show Post a s.heap K _ _
  cases hl : kvs.lookup i with
  | none =>
    rw [hl] at k
    rw [hr.find_none hl]
    exact .toks k R rfl _
  | some y =>
    rw [hl] at k
    obtain ⟨v, e, rv⟩ := hr.find hl
    rw [e]
    exact .toks k R rv _
theorem RelK.without {h : Heap} {i : Int} : ∀ {xs : List (Int × AV)} {vs : List (Int × Value)}, RelK h xs vs → RelK h (xs.filter fun p => !decide (p.1 = i)) (vs.filter fun p => !decide (p.1 = i))
  | [], _, e => by cases e; rfl
  | p :: xs, _, ⟨u, r, e1, e2, e3⟩ => by
    subst e1
    by_cases hp : p.1 = i
    · simp only [List.filter_cons, hp, decide_true, Bool.not_true, Bool.false_eq_true, if_false]; exact RelK.without e3
    · simp only [List.filter_cons, hp, decide_false, Bool.not_false, if_true]; exact ⟨u, _, rfl, e2, RelK.without e3⟩
theorem pop_dI {d : Addr} {i : Int} {kvs : List (Int × AV)} {x : AV} {led' : Led} (g : GetO d (.dI kvs) led) (g' : SetO d (.dI (kvs.filter fun p => !decide (p.1 = i))) led led') (hz : kvs.length ≤ 1000000) (k : K ((kvs.lookup i).getD x) loc led') :
    OpL a (fun vs => call (.builtin "dict.pop") vs) [.ref d, .int i, x] loc led K := by
  intro s vs R r
  obtain ⟨v, u, z, rfl, rfl, ⟨t, rfl⟩, rz⟩ := r.three
  obtain ⟨ws, hd, hr⟩ := R.objs _ g.mem
  have hargs : argsOk "dict.pop" ⟨[.ref d, .int i t, z], []⟩ := PySem.F.args_dict_pop_3 _ _ _
  cases hl : kvs.lookup i with
  | none =>
    rw [hl] at k
    have hf : (kvs.filter fun p => !decide (p.1 = i)) = kvs := by
      refine List.filter_eq_self.mpr fun p hp => ?_
      by_cases hpi : p.1 = i
      · have : ∃ y, kvs.lookup i = some y := by
          clear hl hr hd g g' hz
          induction kvs with
          | nil => cases hp
          | cons q qs ih =>
            rw [List.lookup_cons]
            by_cases e : i = q.1
            · rw [e]; simp
            · rw [beq_eq_false_iff_ne.mpr e]
              rcases List.mem_cons.mp hp with e' | hp
              · exact absurd (by rw [← e', hpi]) e
              · exact ih hp
        obtain ⟨y, e⟩ := this
        rw [e] at hl; cases hl
      · simp [hpi]
    rw [hf] at g'
    refine call_meetsIn PySem.F.slot_dict_pop hd.mapOf.typeIs PySem.F.entry_dict_pop hargs (meets_dict_pop_default (intKind PW a.w) d (intKind_is PW a.w i t) (mods (R.apart _ g.mem).2.2) rfl z) ⟨_, hd, hr.find_none hl, ?_⟩
    obtain ⟨R', t'⟩ := R.change g' (tk := s.toks + 1) (.refl ..) ⟨_, hd, hr⟩
    exact ⟨_, loc, led', k, R', t', rz⟩
  | some y =>
    rw [hl] at k
    obtain ⟨v, e, rv⟩ := hr.find hl
    refine call_meetsIn PySem.F.slot_dict_pop hd.mapOf.typeIs PySem.F.entry_dict_pop hargs (meets_dict_pop_there (intKind PW a.w) d (intKind_is PW a.w i t) [z] (.inr ⟨_, rfl⟩) rfl) ⟨_, v, hd, (by rw [hr.length]; exact Nat.le_trans hz (by decide)), e, fun h' hd' hs => ?_⟩
    obtain ⟨o, eo, hn⟩ := (R.objs _ g.mem).there
    have tk : TK s.heap h' := TK.but hs hn
    obtain ⟨R', t'⟩ := R.change g' (tk := s.toks + 1) hs ⟨_, hd', by
      have e : without ws i = ws.filter fun p => !decide (p.1 = i) := by unfold PySem.without; congr 1; funext p; simp
      rw [e]; exact (hr.without (i := i)).mono tk⟩
    exact ⟨_, loc, led', k, R', t', rv.mono t'⟩

theorem relL_of {h' : Heap} : ∀ {xs : List AV} {vs : List Value}, vs.length = xs.length → (∀ (j : Nat) (v : Value), vs[j]? = some v → ∃ x, xs[j]? = some x ∧ Rel h' x v) → RelL h' xs vs := by
  intro xs
  induction xs with
  | nil => intro vs hl _; rw [List.length_eq_zero_iff.mp hl]; exact .nil
  | cons x xs ih =>
    intro vs hl h
    cases vs with
    | nil => cases hl
    | cons v vs =>
      obtain ⟨y, e, r⟩ := h 0 v rfl
      cases e
      exact .cons r (ih (by simpa using hl) fun j v hv => h (j + 1) v hv)
/-! ### built-ins -/
theorem min_ii {i j : Int} (O : a.Ok) (H : a.hd = true) (k : K (.int (if j < i then j else i)) loc led) : OpL a (fun vs => call (.builtin "min") vs) [.int i, .int j] loc led K := by
  intro s vs R r
  obtain ⟨v, u, rfl, ⟨t, rfl⟩, ⟨t', rfl⟩⟩ := r.two
  refine min_two_ints (O.room.1 H) fun h' tk hk => ?_
  by_cases hc : j < i
  · rw [if_pos hc] at k ⊢; exact ⟨_, loc, led, k, R.grow hk tk s.drawn, TK.keeps hk, _, rfl⟩
  · rw [if_neg hc] at k ⊢; exact ⟨_, loc, led, k, R.grow hk tk s.drawn, TK.keeps hk, _, rfl⟩
theorem abs_i {i : Int} (k : K (.int (if i < 0 then -i else i)) loc led) : OpL a (fun vs => call (.builtin "abs") vs) [.int i] loc led K := by
  intro s vs R r
  obtain ⟨v, rfl, ⟨t, rfl⟩⟩ := r.one
  exact call_abs_int fun u tk => .toks k R ⟨_, rfl⟩ _
theorem str_i {i : Int} (hi : i.natAbs.log2 < 1920) (k : K (.str (Str.ofString (toString i))) loc led) : OpL a (fun vs => call (.type "str") vs) [.int i] loc led K := by
  intro s vs R r
  obtain ⟨v, rfl, ⟨t, rfl⟩⟩ := r.one
  exact P.str_of_int hi (.toks k R ⟨_, rfl⟩ _)
theorem int_s {i : Int} (h0 : 0 ≤ i) (h1 : i < 10 ^ 10) (k : K (.int i) loc led) : OpL a (fun vs => call (.type "int") vs) [.str (Str.ofString (toString i))] loc led K := by
  intro s vs R r
  obtain ⟨v, rfl, ⟨t, rfl⟩⟩ := r.one
  exact KIN.call_num h0 h1 (.toks k R ⟨_, rfl⟩ _)
theorem sorted_l {d : Addr} {ns : List Int} (O : a.Ok) (g : GetO d (.list (ns.map .int)) led) (hz : ns.length < 64) (k : ∀ r (ns' : List Int), ns'.Perm ns → ns'.Pairwise (· ≤ ·) → K (.ref r) loc ((r, .list (ns'.map .int)) :: led)) :
    OpL a (fun vs => call (.builtin "sorted") vs) [.ref d] loc led K := by
  intro s vs R r
  obtain ⟨v, rfl, rfl⟩ := r.one
  obtain ⟨ws, h1, hr, hl⟩ := led_list R g
  obtain ⟨m, ns', _⟩ := id R.ns
  obtain ⟨F, N⟩ := all_fr m R ns'
  refine sorted_N F N h1 (relL_ints hr) (by rw [hl, List.length_map]; exact hz) fun h' vs' ms e F' N' hI hp hs => ?_
  obtain ⟨R', t'⟩ := R.news ns' F'.ns (fun b o hb e => (N' (b, o) (.tail _ (allNews_mem e hb hb))).1) s.toks
  have hd := (N' _ (.head _)).1
  have hfr : s.heap.get? (s.heap.objs.size + 1) = none := by
    cases q : s.heap.get? (s.heap.objs.size + 1) with
    | none => rfl
    | some o => exact absurd (Heap.lt_size q) (by simp)
  exact ⟨_, loc, _, k (s.heap.objs.size + 1) ms hp hs, R.new R' hfr ⟨vs', e, hd, ints_relL hI⟩ (Nat.lt_succ_of_lt (size_mg O R)), t', rfl⟩
theorem list_str {x : Str} (O : a.Ok) (H : a.hd = true) (hz : x.length ≤ 1000000) (k : ∀ r, K (.ref r) loc ((r, .list (signs x)) :: led)) : OpL a (fun vs => call (.type "list") vs) [.str x] loc led K := by
  intro s vs R r
  obtain ⟨v, rfl, ⟨t, rfl⟩⟩ := r.one
  refine call_list_str (O.room.1 H) x t (fun h' tk acc c' hk ho hit => ?_) (Nat.le_trans hz (by decide))
  have R' := R.grow hk tk s.drawn
  refine ⟨_, loc, _, k s.heap.objs.size, R.new R' (fresh_get _) ⟨acc.toList, c', by simpa using ho, ?_⟩ (size_mg O R), TK.keeps hk, rfl⟩
  refine relL_of (by simp [signs, hit.1]) fun j v hv => ?_
  obtain ⟨c, u, hc, rfl⟩ := hit.2 j v (by simpa using hv)
  exact ⟨.str ⟨#[c]⟩, by unfold signs; rw [List.getElem?_map, Array.getElem?_toList, hc]; rfl, _, rfl⟩
theorem list_range {r : Addr} {lo hi : Int} (O : a.Ok) (H : a.hd = true) (g : GetO r (.range lo hi) led) (h1 : -(2 ^ 62) ≤ lo) (h2 : lo < 2 ^ 62) (h3 : -(2 ^ 62) ≤ hi) (h4 : hi < 2 ^ 62) (hn : hi - lo ≤ 1000000)
    (k : ∀ r', K (.ref r') loc ((r', .list (rng lo (hi - lo).toNat)) :: led)) : OpL a (fun vs => call (.type "list") vs) [.ref r] loc led K := by
  intro s vs R rr
  obtain ⟨v, rfl, rfl⟩ := rr.one
  obtain ⟨t, u, z, hr⟩ := R.objs _ g.mem
  refine call_list_range (O.room.1 H) hr (small_one h1 h2 h3 h4) (rangeSize_nat lo hi) (by omega) fun h' tk acc c' hk ho hit => ?_
  have R' := R.grow hk tk s.drawn
  refine ⟨_, loc, _, k s.heap.objs.size, R.new R' (fresh_get _) ⟨acc.toList, c', by simpa using ho, ?_⟩ (size_mg O R), TK.keeps hk, rfl⟩
  refine relL_of (by simp [rng, hit.1]) fun j v hv => ?_
  obtain ⟨t, rfl⟩ := hit.2 j v (by simpa using hv)
  have hj : j < (hi - lo).toNat := by
    have := (List.getElem?_eq_some_iff.mp hv).1
    rw [Array.length_toList, hit.1] at this; exact this
  exact ⟨.int (lo + (j : Nat)), by unfold rng; simp [hj], t, by rw [Int.mul_one]⟩
theorem list_dI {d : Addr} {kvs : List (Int × AV)} (O : a.Ok) (H : a.hd = true) (g : GetO d (.dI kvs) led) (hz : kvs.length ≤ 1000000) (k : ∀ r, K (.ref r) loc ((r, .list (kvs.map fun p => .int p.1)) :: led)) :
    OpL a (fun vs => call (.type "list") vs) [.ref d] loc led K := by
  intro s vs R rr
  obtain ⟨v, rfl, rfl⟩ := rr.one
  obtain ⟨ws, hd, hr⟩ := R.objs _ g.mem
  obtain ⟨ep, hat⟩ := hd.dictAt
  obtain ⟨m, ns', _⟩ := id R.ns
  obtain ⟨F, N⟩ := all_fr m R ns'
  refine kdl_N (kdl_dict (knd := intKind PW a.w) (kvs := ws) (ep := ep) (mods (R.apart _ g.mem).2.2)) (O.room.1 H) F N hat (by rw [hr.length]; exact Nat.le_trans hz (by decide)) fun D c h' tk vs F' N' hlt hlen hv => ?_
  obtain ⟨R', t'⟩ := R.news ns' F'.ns (fun b o hb e => (N' (b, o) (.tail _ (allNews_mem e hb hb))).1) tk
  have hD := (N' _ (.head _)).1
  have hfr : s.heap.get? D = none := by
    cases q : s.heap.get? D with
    | none => rfl
    | some o =>
      by_cases hL : D = a.L
      · exact absurd hL (N' _ (.head _)).2.1
      · exact absurd (hlt _ (allNews_mem q hL hL)) (Nat.lt_irrefl _)
  have hmg : mainGlobals < D := by
    obtain ⟨o, eo, _⟩ := (R.objs _ g.mem).there
    exact Nat.lt_trans (R.apart _ g.mem).2.2 (hlt _ (allNews_mem eo (R.apart _ g.mem).1 (R.apart _ g.mem).1))
  refine ⟨_, loc, _, k D, R.new R' hfr ⟨vs, c, hD, ?_⟩ hmg, t', rfl⟩
  refine relL_of (by rw [hlen, hr.length, List.length_map]) fun j v hjv => ?_
  obtain ⟨i, x, hx, hk⟩ := hv j v hjv
  obtain ⟨t, rfl⟩ := Value.isInt_shape hk
  have hkeys := hr.keys
  have : (ws.map (·.1))[j]? = some i := by rw [List.getElem?_map, hx]; rfl
  rw [hkeys, List.getElem?_map] at this
  obtain ⟨p, hp, e⟩ := Option.map_eq_some_iff.mp this
  exact ⟨.int i, by rw [List.getElem?_map, hp]; show some (AV.int p.1) = _; rw [e], t, rfl⟩
theorem idiv_ii {i j : Int} (hj : j ≠ 0) (hp : Builtin.divisionGoesByPylong i j = false) (h : K (.int (i.fdiv j)) loc led) : Op2 a (inplaceOp .FloorDiv) (.int i) (.int j) loc led K := by
  rintro s v u R ⟨t, rfl⟩ ⟨t', rfl⟩; exact ifloordiv_int hj (.toks h R ⟨_, rfl⟩ _) (.inl hp)
end
theorem fm (n m : Nat) : (n : Int).fmod (m : Int) = ((n % m : Nat) : Int) := by rw [Int.fmod_eq_emod_of_nonneg _ (Int.natCast_nonneg _)]; rfl
theorem fd (n m : Nat) : (n : Int).fdiv (m : Int) = ((n / m : Nat) : Int) := by rw [Int.fdiv_eq_ediv_of_nonneg _ (Int.natCast_nonneg _)]; rfl

end

section
open PySem PySem.W PyProof.Rows
section
variable {sc : Scope} {a : Act sc} {loc : Loc} {led : Led} {s : Shared} {K : KV} {KS : KSt} {KB : KBo} {KL : KLi} {KU : KUn}

/-- the type of a plain value -/
noncomputable def AV.tyOf : AV → Option String | .none => some "NoneType" | .bool _ => some "bool" | .int _ => some "int" | .str _ => some "str" | _ => Option.none
noncomputable def Isi (t c : Value) (b : Bool) : Prop := ∀ w : World, (kitOne (KF w.params) t c == some b) = true
theorem isi_flat {x : AV} {T : String} {c : Value} {y : AV} {b : Bool} (hx : x.tyOf = some T) (hc : ∀ h v, Rel h y v → v = c) (O : a.Ok) (e : Isi (.type T) c b) (k : K (.bool b) loc led) : OpL a (fun vs => call (.builtin "isinstance") vs) [x, y] loc led K := by
  intro s vs R r
  obtain ⟨v, u, rfl, rv, ru⟩ := r.two
  obtain rfl := hc _ _ ru
  have X := O.glob.2.keeps R.keep
  have e' := beq_iff_eq.mp (e a.w)
  have fin : ∀ tk, Post a s.heap K (.bool b) { s with toks := tk } := fun tk => .toks k R rfl _
  cases x with
  | none => cases hx; cases rv; exact kia_one kitx_none X trivial e' (by intro q; cases q) fin
  | bool z => cases hx; cases rv; exact kia_one kitx_bool X trivial e' (by intro q; cases q) fin
  | int z => cases hx; obtain ⟨t, rfl⟩ := rv; exact kia_one kitx_int X trivial e' (by intro q; cases q) fin
  | str z => cases hx; obtain ⟨t, rfl⟩ := rv; exact kia_one kitx_str X trivial e' (by intro q; cases q) fin
  | _ => cases hx
theorem isi_T {x : AV} {T U : String} {b : Bool} (hx : x.tyOf = some T) (O : a.Ok) (e : Isi (.type T) (.type U) b) (k : K (.bool b) loc led) : OpL a (fun vs => call (.builtin "isinstance") vs) [x, .ty U] loc led K :=
  isi_flat hx (fun _ _ r => r) O e k
theorem isi_C {x : AV} {T : String} {C : Addr} {b : Bool} (hx : x.tyOf = some T) (O : a.Ok) (e : Isi (.type T) (.ref C) b) (k : K (.bool b) loc led) : OpL a (fun vs => call (.builtin "isinstance") vs) [x, .ref C] loc led K :=
  isi_flat hx (fun _ _ r => r) O e k
noncomputable def OwnOk (D : Addr) : Prop := ∀ w : World, (plainGet (KF w.params) D Str.empty && hasDictIn (KF w.params) D && (findIn (KF w.params) (.ref D) "__class__" == some (some (.builtin "object.__class__"))) &&
  (specialIn (KF w.params) (.builtin "object.__class__") "__get__" == some (some (.builtin "getset_descriptor.__get__"))) && (takesIn (KF w.params) (.builtin "object.__class__") == some true) && (mroIn (KF w.params) D (.type "object") == some true) && (clsIn (KF w.params) D).isSome) = true
theorem own_x {x D d : Addr} {es : List DictEntry} {n : Nat} (c : OwnOk D) (w : World) : KitX (KF w.params) (.ref x) (.ref D) (fun h => InstAt h x ⟨.ref D, some d, .plain, #[]⟩ D (some (dictOf es n))) := by
  have h := c w
  simp only [Bool.and_eq_true] at h
  obtain ⟨⟨⟨⟨⟨⟨h1, h2⟩, h3⟩, h4⟩, h5⟩, h6⟩, h7⟩ := h
  exact kitx_own h1 h2 (beq_iff_eq.mp h3) (beq_iff_eq.mp h4) (beq_iff_eq.mp h5) (beq_iff_eq.mp h6)
theorem isi_own {x D d C : Addr} {kvs : List (Str × AV)} {b : Bool} (c : OwnOk D) (O : a.Ok) (g : GetO x (.inst D d) led) (g' : GetO d (.attrs kvs) led) (e : Isi (.ref D) (.ref C) b) (k : K (.bool b) loc led) : OpL a (fun vs => call (.builtin "isinstance") vs) [.ref x, .ref C] loc led K := by
  intro s vs R r
  obtain ⟨v, u, rfl, rfl, rfl⟩ := r.two
  obtain ⟨es, n, I, _⟩ := inst_at R g g'
  exact kia_one (own_x c a.w) (O.glob.2.keeps R.keep) I (beq_iff_eq.mp (e a.w)) (by intro q; cases q) fun tk => .toks k R rfl _
noncomputable def IsiAny (t : Value) (its : List Value) (b : Bool) : Prop := ∀ w : World, (kitAny (KF w.params) t its == some b) = true
theorem isi_own2 {x D d C C' : Addr} {kvs : List (Str × AV)} {b : Bool} (c : OwnOk D) (O : a.Ok) (g : GetO x (.inst D d) led) (g' : GetO d (.attrs kvs) led) (e : IsiAny (.ref D) [.ref C, .ref C'] b) (k : K (.bool b) loc led) : OpL a (fun vs => call (.builtin "isinstance") vs) [.ref x, .tup [.ref C, .ref C']] loc led K := by
  intro s vs R r
  obtain ⟨v, u, rfl, rfl, ru⟩ := r.two
  obtain ⟨es, n, I, _⟩ := inst_at R g g'
  unfold Rel at ru
  obtain ⟨tp, ws, rfl, ⟨o, ho, hc, m, hd⟩, hr⟩ := ru
  obtain ⟨v1, v2, rfl, rfl, rfl⟩ := hr.two
  obtain ⟨oc, od, oda, osl⟩ := o
  dsimp only at hc hd
  subst hc hd
  exact kia_tup (own_x c a.w) (O.glob.2.keeps R.keep) I ho (beq_iff_eq.mp (e a.w)) (by intro q; cases q) fun tk => .toks k R rfl _

/-! ### two or three names at once -/
theorem Ex_Swap2 {x y : Str} {p q : Pos} {k : Nat} {p' pos : Pos} {value : Expr} (O : a.Ok) (H : a.hd = true) (hs : swapsWithSole [.Tuple [.Name x p, .Name y q] k p'] value pos.line a.env = pure false) (hw : swappedStores [.Tuple [.Name x p, .Name y q] k p'] value a.env = pure (some [x, y]))
    (h : Ev a (eval value a.env) loc led fun av loc led => ∃ u v, av = .tup [u, v] ∧ Stored y v loc fun loc => Stored x u loc (cNext KS led)) : Ex a (exec (.Assign [.Tuple [.Name x p, .Name y q] k p'] value pos) a.env) loc led KS := by
  refine Ex_AssignSwap O H hs hw fun s R => wpAny_mono (h s R) (fun v s₁ pp => ?_) fun _ _ e => e
  obtain ⟨av, l1, d1, ⟨u, v', rfl, l2, g2, l3, g3, k3⟩, R1, t1, r1⟩ := pp
  exact ⟨.tup [u, v'], l1, d1, Swap.mk rfl (asnL_bind O g2 (asnL_bind O g3 (asnL_nil k3))), R1, t1, r1⟩
theorem Ex_Swap3 {x y z : Str} {p q r : Pos} {k : Nat} {p' pos : Pos} {value : Expr} (O : a.Ok) (H : a.hd = true) (hs : swapsWithSole [.Tuple [.Name x p, .Name y q, .Name z r] k p'] value pos.line a.env = pure false) (hw : swappedStores [.Tuple [.Name x p, .Name y q, .Name z r] k p'] value a.env = pure (some [x, y, z]))
    (h : Ev a (eval value a.env) loc led fun av loc led => ∃ u v w, av = .tup [u, v, w] ∧ Stored z w loc fun loc => Stored y v loc fun loc => Stored x u loc (cNext KS led)) : Ex a (exec (.Assign [.Tuple [.Name x p, .Name y q, .Name z r] k p'] value pos) a.env) loc led KS := by
  refine Ex_AssignSwap O H hs hw fun s R => wpAny_mono (h s R) (fun v s₁ pp => ?_) fun _ _ e => e
  obtain ⟨av, l1, d1, ⟨u, v', w, rfl, l2, g2, l3, g3, l4, g4, k4⟩, R1, t1, r1⟩ := pp
  exact ⟨.tup [u, v', w], l1, d1, Swap.mk rfl (asnL_bind O g2 (asnL_bind O g3 (asnL_bind O g4 (asnL_nil k4)))), R1, t1, r1⟩
theorem sw2 {u v : AV} {P : AV → AV → Prop} (h : P u v) : ∃ u' v', AV.tup [u, v] = .tup [u', v'] ∧ P u' v' := ⟨u, v, rfl, h⟩
theorem sw3 {u v w : AV} {P : AV → AV → AV → Prop} (h : P u v w) : ∃ u' v' w', AV.tup [u, v, w] = .tup [u', v', w'] ∧ P u' v' w' := ⟨u, v, w, rfl, h⟩
end

end

section
open PySem PySem.W PyProof.Rows
section
variable {sc : Scope} {a : Act sc} {loc : Loc} {led : Led} {s : Shared} {K : KV} {KS : KSt} {KB : KBo} {KL : KLi} {KU : KUn}
/-! ### try -/
/-- within a try's body -/
noncomputable def Act.tried (a : Act sc) (E : Value → Shared → Prop) : Act sc := { a with E := E }
theorem Rep.tried {E : Value → Shared → Prop} (R : Rep a loc led s) : Rep (a.tried E) loc led s := ⟨R.gens, R.os, R.keep, R.ns, R.keys, R.kinds, R.objs, R.apart, R.nodup, R.fresh⟩
theorem Rep.untried {E : Value → Shared → Prop} (R : Rep (a.tried E) loc led s) : Rep a loc led s := ⟨R.gens, R.os, R.keep, R.ns, R.keys, R.kinds, R.objs, R.apart, R.nodup, R.fresh⟩
theorem Act.Ok.tried {E : Value → Shared → Prop} (O : a.Ok) : (a.tried E).Ok := ⟨O.kind, O.frs, O.glob, O.room, O.esc⟩
theorem Ex_Try0 {body : List Stmt} {h₀ : ExceptHandler} {hs : List ExceptHandler} {pos : Pos} (O : a.Ok) (h : ∀ E, (a.tried E).Ok → Ex (a.tried E) (execs body (a.tried E).env) loc led KS) : Ex a (exec (.Try body (h₀ :: hs) [] [] pos) a.env) loc led KS := by
  intro s R
  refine wpAny_Try_except (wpAny_mono (h (fun e s₁ => wpAny a.M a.A (noteFrame e a.env) (fun _ s₂ => wpAny a.M a.A (setFlight e none) (fun _ s₃ => wpAny a.M a.A (handleBy e a.env (h₀ :: hs)) (PostF a s.heap KS) a.E s₃) a.E s₂) a.E s₁) O.tried s R.tried) (fun f s₁ p => ?_) fun _ _ e => e)
  rcases p with ⟨af, l1, d1, k1, R1, t1, r1⟩ | hx
  · cases af with
    | next => cases r1; exact wpAny_execs_nil (.inl ⟨.next, l1, d1, k1, R1.untried, t1, rfl⟩)
    | brk => cases r1; exact .inl ⟨.brk, l1, d1, k1, R1.untried, t1, rfl⟩
    | cont => cases r1; exact .inl ⟨.cont, l1, d1, k1, R1.untried, t1, rfl⟩
    | ret v => obtain ⟨u, rfl, r⟩ := r1; exact .inl ⟨.ret v, l1, d1, k1, R1.untried, t1, u, rfl, r⟩
  · obtain ⟨v, rfl⟩ := O.esc _ _ hx
    exact .inr hx
end

end

section
open PySem PySem.W PyProof.Rows PySem.Calls Builtin Builtin.ObjectAttr
/-! ## exceptions made -/
noncomputable def xmakesIn (K : Frag) (C : Addr) : Bool := match K.lookup C with
  | some ⟨oc, _, .cls cd, sl⟩ => oc == .type "type" && !cd.hasDel && cd.hasDict && (sl.toList[4]?).join == some (.builtin "Exception.__new__") && !cd.mro.isEmpty && cd.mro.contains (.ref C) && cd.mro.contains (.type "Exception") && cd.mro.contains (.type "BaseException") &&
      !cd.mro.contains (.type "AttributeError") && !cd.mro.contains (.type "NameError") && specialIn K (.ref C) "__call__" == some (some (.builtin "type.__call__")) && instIn K (.ref C) (.type "type") == some true
  | _ => false
structure XMakes (M : Model) (h : Heap) (C : Addr) : Prop where
  obj : ∃ oc od cd sl, h.get? C = some ⟨oc, od, .cls cd, sl⟩ ∧ cd.hasDel = false ∧ cd.hasDict = true ∧ cd.mro.isEmpty = false ∧ (oc == .type "type") = true
  made : Looks M h (Bind.madeBy (.ref C)) (some "Exception.__new__")
  base : Looks M h (Bind.staticBase (.ref C)) (.ref C)
  self : Looks M h (isSubtype (.ref C) (.ref C)) true
  exc : Looks M h (isSubtype (.ref C) (.type "Exception")) true
  bex : Looks M h (isSubtype (.ref C) (.type "BaseException")) true
  attr : Looks M h (isSubtype (.ref C) (.type "AttributeError")) false
  name : Looks M h (isSubtype (.ref C) (.type "NameError")) false
  call : Looks M h (specialOf (.ref C) "__call__") (some (.builtin "type.__call__"))
  typ : Looks M h (isInstance (.ref C) (.type "type")) true
theorem xmakes_of {K : Frag} {M : Model} {h : Heap} (X : K.In h) {C : Addr} (e : xmakesIn K C = true) : XMakes M h C := by
  unfold xmakesIn at e
  split at e
  · rename_i oc od cd sl ho
    simp only [Bool.and_eq_true, Bool.not_eq_true', beq_iff_eq] at e
    obtain ⟨⟨⟨⟨⟨⟨⟨⟨⟨⟨⟨e0, e1⟩, e2⟩, e3⟩, e4⟩, e5⟩, e6⟩, e7⟩, e8⟩, e9⟩, e10⟩, e11⟩ := e
    have hc : clsIn K C = some cd := by unfold clsIn; rw [ho]
    have hm : Looks M h (mroOf (.ref C)) cd.mro := (looks_clsIn X hc).andThen .now
    obtain ⟨c, l, hl⟩ : ∃ c l, cd.mro = c :: l := by
      cases q : cd.mro with
      | nil => rw [q] at e4; cases e4
      | cons c l => exact ⟨c, l, rfl⟩
    have made : Looks M h (Bind.madeBy (.ref C)) (some "Exception.__new__") := by
      intro A Q E s k q
      unfold Bind.madeBy
      refine wpAny_bind (hm A _ E s k ?_)
      rw [hl, List.forIn_cons]
      refine wpAny_bind (wpAny_bind (wpAny_bind (wpAny_bind (wpAny_loadPart (k _ _ (X _ _ ho)) (wpAny_pure ?_)))))
      dsimp only
      rw [← Array.getElem?_toList, e3]
      exact wpAny_pure (wpAny_pure (wpAny_pure q))
    have mro : ∀ {b : Value} {r : Bool}, cd.mro.contains b = r → mroIn K C b = some r := fun {b r} q => by
      unfold mroIn; rw [hc, Option.bind_some, if_neg (by rw [e4]; decide), q]
    refine ⟨⟨oc, od, cd, sl, X _ _ ho, e1, e2, e4, beq_iff_eq.mpr e0⟩, made, ?_, looks_mroIn X (mro e5), looks_mroIn X (mro e6), looks_mroIn X (mro e7), looks_mroIn X (mro e8), looks_mroIn X (mro e9), looks_specialIn X e10, looks_instIn X e11⟩
    intro A Q E s k q
    unfold Bind.staticBase
    refine wpAny_bind (hm A _ E s k ?_)
    rw [hl, List.forIn_cons]
    exact wpAny_bind (wpAny_bind (wpAny_bind (made A _ E s k (wpAny_pure (wpAny_pure (wpAny_pure q))))))
  · cases e

noncomputable abbrev excObj (C : Addr) (t : Addr) (d : Option Addr) : Obj := ⟨.ref C, d, .fields #[.ref t, .none, .none, .none, .bool false, .none], #[]⟩
noncomputable abbrev tupObj (vs : List Value) : Obj := { cls := .type "tuple", data := .seq vs.toArray }
section
variable {prog : Program} {w : World} {A : Around} {K : Frag} {C : Addr} {R : Result → Shared → Prop} {h : Heap} {g : Array GenState} {d : Drawn} {t : Nat} {os : OsState}
theorem exc_new {rest : List Value} (Y : XMakes (model prog w) h C) (hq : R (.ok (.ret (.ref (h.objs.size + 1)))) ⟨(h.push (tupObj rest)).push (excObj C h.objs.size none), g, d, t, os⟩) (hz : rest.length ≤ sizeLine) :
    codeAny (model prog w) A (.call (.builtin "Exception.__new__") ⟨.ref C :: rest, []⟩) R ⟨h, g, d, t, os⟩ := by
  obtain ⟨⟨oc, od, cd, sl, hC, e1, e2, e4, e5⟩, made, base, self, exc, bex, attr, name, call, typ⟩ := Y
  have F := PySem.F.excBase_Exception
  have here : Looks (model prog w) h (Bind.madeHere "BaseException.__new__" (.ref C)) () := base.andThen (made.andThen (Looks.of_pure (by rw [Option.map_some, F.canon]; simp only [bne_self_eq_false, Bool.false_eq_true, if_false])))
  have hends := F.ends
  refine codeAny_call_builtin_code (Code.quiet_builtin _ F.quiet) ?_
  simp only [checkBuiltinCall, F.newKind, F.newSplit, F.newRow]
  have hstar := F.noStar
  repeat (first | simp only [bne_self_eq_false, Bool.false_eq_true, if_false] | lk)
  refine codeAny_builtinAt F.entry ?_
  unfold Builtin.«BaseException.__new__»
  refine PySem.wpAt_bind ?_
  show PySem.wpAt _ _ _ (stack >>= _) _ _ _
  refine PySem.wpAt_bind (PySem.wpAt_stack fun p below => PySem.wpAt_of_wpAny ?_)
  wp_walk
  refine PySem.wpAt_of_wpAny ?_
  rw [F.owner]
  repeat (first | simp only [Bool.false_eq_true, if_false, Bool.not_true] | lk)
  show wpAny _ _ (newTuple rest) _ _ _
  refine wpAny_newTuple ?_ hz
  have hC1 := Heap.get?_push_of_some (excObj C h.objs.size none) (Heap.get?_push_of_some (tupObj rest) hC)
  have fin : ∀ A', wpAny (model prog w) A' (do
      let o ← newObj (.ref C) (Data.fields #[.ref h.objs.size, .none, .none, .none, .bool false, .none])
      ret o) (fun fin s' => match fin with | .done f => R (.ok f) s' | .again c' => c'.quiet = true ∧ codeAny (model prog w) A c' R s') (fun e s' => R (.error e) s') ⟨h.push (tupObj rest), g, d, t, os⟩ := by
    intro A'
    show wpAny _ _ (newObjAsIs _ _ _ >>= _) _ _ _
    unfold newObjAsIs classHasDel
    refine wpAny_bind (wpAny_bind (wpAny_alloc (wpAny_bind (wpAny_bind (wpAny_load hC1 (wpAny_pure ?_))))))
    rw [e1]
    refine wpAny_pure (wpAny_pure ?_)
    show R _ _
    rw [Heap.size_push]
    exact hq
  exact fin _
theorem exc_core {rest : List Value} {init : Value} (Y : XMakes (model prog w) h C) (hi : Looks (model prog w) h (typeLookup (.ref C) "__init__") (some init)) (hb : ∀ self, Looks (model prog w) h (bindSpecial init self) (init, [self])) (hz : rest.length ≤ sizeLine)
    (hq : codeAny (model prog w) (A.under (.builtin "type.__call__" ⟨.ref C :: rest, []⟩)) (.call init ⟨.ref (h.objs.size + 1) :: rest, []⟩) (InitBack (h.objs.size + 1) R) ⟨(h.push (tupObj rest)).push (excObj C h.objs.size none), g, d, t, os⟩) :
    codeAny (model prog w) A (.call (.ref C) ⟨rest, []⟩) R ⟨h, g, d, t, os⟩ := by
  have Y' := Y
  obtain ⟨⟨oc, od, cd, sl, hC, e1, e2, e4, e5⟩, made, base, self, exc, bex, attr, name, call, typ⟩ := Y
  refine codeAny_of_tree ?_
  show wpAny _ _ (callAny (.ref C) _) _ _ _
  refine nd_load hC ?_
  show wpAny _ _ (callAny.viaDunder (.ref C) _) _ _ _
  unfold callAny.viaDunder
  refine wpAny_bind (call.at ?_)
  dsimp only
  rw [tc_bind]
  refine wpAny_bind (wpAny_pure (wpAny_bind (wpAny_pure ?_)))
  refine wpAny_pure (a := Fin.again (.call (.builtin "type.__call__") ⟨.ref C :: rest, []⟩)) (And.intro rfl ?_)
  refine codeAny_call_builtin_at (Code.quiet_builtin _ (by decide +kernel)) entry_typeCall (check_slot tc_kind tc_split typ (tc_args _ _ _) ?_)
  unfold Builtin.«type.__call__»
  have hm : Looks (model prog w) h (mroOf (.ref C)) cd.mro := ((Looks.ld (part := none) hC).andThen .now).andThen .now
  repeat (first | simp only [e4, Bool.false_eq_true, if_false] | with_reducible refine wpAny_call ?_ | lk)
  refine exc_new Y' ?_ hz
  have k : ∀ b o, h.get? b = some o → ((h.push (tupObj rest)).push (excObj C h.objs.size none)).get? b = some o := fun b o e => Heap.get?_push_of_some _ (Heap.get?_push_of_some _ e)
  have hx : ((h.push (tupObj rest)).push (excObj C h.objs.size none)).get? (h.objs.size + 1) = some (excObj C h.objs.size none) := by heap_get
  have t1 : Looks (model prog w) ((h.push (tupObj rest)).push (excObj C h.objs.size none)) (typeOf (.ref (h.objs.size + 1))) (.ref C) := (Looks.ld hx).andThen .now
  have s1 := self.keeps k
  have i1 := hi.keeps k
  have b1 := (hb (.ref (h.objs.size + 1))).keeps k
  unfold isInstance callSpecial? specialOf
  repeat (first | with_reducible refine wpAny_call ?_ | lk)
  refine codeAny_mono hq fun r s' z => ?_
  rcases r with e | (v | _ | _ | _) <;> first | exact z | exact z.elim | skip
  obtain ⟨rfl, z⟩ := z
  exact wpAny_pure (wpAny_pure z)
end
/-! ## stores into an exception's dict -/
noncomputable def excCls (K : Frag) (C : Addr) : Bool := (clsIn K C).any fun cd => cd.hasDict && !cd.mro.isEmpty && cd.mro == [.ref 58, .ref 38, .type "Exception", .type "BaseException", .type "object"]
section
variable {prog : Program} {w : World} {A : Around} {K : Frag} {C x : Addr} {s : Shared} {R : Result → Shared → Prop} {E : Value → Shared → Prop}
theorem store_dict {Q : PySem.Fin → Shared → Prop} {dx : Addr} {es : List DictEntry} {n : Nat} {name : Str} {tk : Tok} {v : Value} (D : s.heap.get? dx = some (dictOf es n)) (hl : (getL name es).isSome = true)
    (hz : (putL name (PyData.keyHash w.params name) (.str name s.toks) v es).length ≤ 1000)
    (h : ∀ h', Heap.SameBut dx s.heap h' → h'.get? dx = some (dictOf (putL name (PyData.keyHash w.params name) (.str name s.toks) v es) (putN name es n)) → Q (.done (.ret .none)) { s with heap := h', toks := s.toks + 1 }) :
    wpAny (model prog w) A (storeInDict dx (.str name tk) name v) Q E s := by
  have U := Heap.get?_update_self (Obj.putName name (PyData.keyHash w.params name) (.str name s.toks) v) D (by rw [putName_dict]; rfl)
  rw [putName_dict] at U
  unfold storeInDict newKeyGuard nsSet
  refine wpAny_bind (wpAny_pure (wpAny_bind (wpAny_bind (wpAny_bind (wpAny_askSetting (wpAny_pure (wpAny_bind (wpAny_mkText (wpAny_bind (wpAny_loadPart D ?_))))))))))
  dsimp only
  have c : (!es.toArray.any (·.key.isStr name) && es.toArray.any (·.refKey)) = false := by
    unfold getL at hl
    rw [← Array.any_toList, ← Array.any_toList]
    split at hl
    · rename_i en he
      rw [List.any_eq_true.mpr ⟨en, List.mem_of_find?_eq_some he, List.find?_some he⟩]; rfl
    · split at hl
      · cases hl
      · rename_i z; rw [Bool.not_eq_true] at z; rw [z, Bool.and_false]
  rw [aRefKeyMayBeTheName_at, c]
  refine wpAny_updatePart D ?_
  refine wpAny_bind (wpAny_lookBehind U (pastItsLine_dict (by rw [List.size_toArray, sizeLine_eq]; omega)) ?_)
  exact wpAny_pure (h _ ⟨Heap.size_after_update .., fun b hb => Heap.get?_update_other _ _ (Ne.symm hb)⟩ U)
theorem osa_exc {od : Option Addr} {t : Addr} {name : Str} {tk : Tok} {v : Value} (X : K.In s.heap) (hx : s.heap.get? x = some (excObj 58 t od)) (hp : excCls K 58 = true) (ht : takerIn K 58 name = some none)
    (h : ∀ b, wpAny (model prog w) A.in1 (storeInOwnDict (.ref x) (.ref 58) (.str name tk) name v b) (fun fin s' => match fin with | .done f => R (.ok f) s' | .again c' => c'.quiet = true ∧ codeAny (model prog w) A c' R s') (fun e s' => R (.error e) s') s) :
    codeAny (model prog w) A (.call (.builtin "object.__setattr__") ⟨[.ref x, .str name tk, v], []⟩) R s := by
  have SF := PySem.F.store_object
  obtain ⟨cd, hc, ho⟩ := any_some hp
  simp only [Bool.and_eq_true, Bool.not_eq_true', beq_iff_eq] at ho
  obtain ⟨⟨h1, h2⟩, h3⟩ := ho
  have ty : Looks (model prog w) s.heap (typeOf (.ref x)) (.ref 58) := (Looks.ld hx).andThen .now
  have sub : Looks (model prog w) s.heap (isInstance (.ref x) (.type "object")) true := ty.andThen (looks_mroIn X (by unfold mroIn; rw [hc, Option.bind_some, if_neg (by rw [h2]; decide), h3]; rfl))
  refine codeAny_call_builtin SF.slot.plain SF.entry (@check_slot (model prog w) _ _ s "object.__setattr__" "object" "__setattr__" (.ref x) [.str name tk, v] [] _ SF.kind SF.split sub (SF.args (.ref x) (.str name tk) v) ?_)
  obtain ⟨attr, ha, hr⟩ := Option.bind_eq_some_iff.mp ht
  have hm : Looks (model prog w) s.heap (mroOf (.ref 58)) cd.mro := (looks_clsIn X hc).andThen .now
  have L3 : Looks (model prog w) s.heap (storeTaker? attr) none := by
    cases attr with
    | none => exact .now
    | some a =>
      obtain ⟨b, hb, e⟩ := Option.map_eq_some_iff.mp hr
      refine (looks_takesIn X hb).andThen ?_
      cases b with
      | false => exact .now
      | true => cases e
  rw [osa_eq, PySem.refuse_eq]
  refine wpAny_bind (wpAny_bind (ty.here (wpAny_bind (hm.here ?_))))
  rw [h3, refuseLoop_ref, refuseLoop_ref, PySem.F.store_Exception.passes]
  refine wpAny_pure (wpAny_bind (ty.here (wpAny_bind ((looks_findIn X ha).here (wpAny_bind (L3.here ?_))))))
  exact h _
theorem own_some {t : Addr} {dx : Addr} {name : Str} {tk : Tok} {v : Value} {b : Bool} {Q : PySem.Fin → Shared → Prop} (X : K.In s.heap) (hx : s.heap.get? x = some (excObj 58 t (some dx))) (hp : hasDictIn K 58 = true)
    (h : wpAny (model prog w) A (storeInDict dx (.str name tk) name v) Q E s) : wpAny (model prog w) A (storeInOwnDict (.ref x) (.ref 58) (.str name tk) name v b) Q E s := by
  obtain ⟨cd, hc, h1⟩ := any_some hp
  refine wpAny_bind (wpAny_pure (wpAny_bind (wpAny_bind (wpAny_loadPart hx (wpAny_bind ((looks_clsIn X hc).here ?_))))))
  rw [h1]
  exact wpAny_pure (a := some dx) (wpAny_bind (wpAny_pure h))
theorem own_none {t : Addr} {name : Str} {tk : Tok} {v : Value} {b : Bool} {Q : PySem.Fin → Shared → Prop} (X : K.In s.heap) (hx : s.heap.get? x = some (excObj 58 t none)) (hp : hasDictIn K 58 = true)
    (h : wpAny (model prog w) A (storeInDict s.heap.objs.size (.str name tk) name v) Q E { s with heap := (s.heap.push emptyDict).update x fun o => { o with dict := some s.heap.objs.size } }) :
    wpAny (model prog w) A (storeInOwnDict (.ref x) (.ref 58) (.str name tk) name v b) Q E s := by
  obtain ⟨cd, hc, h1⟩ := any_some hp
  refine wpAny_bind (wpAny_pure (wpAny_bind (wpAny_bind (wpAny_loadPart hx (wpAny_bind ((looks_clsIn X hc).here ?_))))))
  rw [h1]
  show wpAny _ _ (alloc emptyDict >>= fun d => update x (fun o => { o with dict := some d }) >>= fun _ => dictMade (.ref 58) x d) _ _ _
  refine wpAny_bind (wpAny_alloc (wpAny_bind (wpAny_update (Heap.get?_push_of_some _ hx) ?_)))
  exact wpAny_pure (a := some s.heap.objs.size) h
end

end

section
open PySem PySem.W PyProof.Rows
section
variable {sc : Scope} {a : Act sc} {loc : Loc} {led : Led} {s : Shared} {K : KV} {KU : KUn}
/-! ## exceptions in the ledger -/
theorem exc_dict : ∀ w : World, (excCls (KF w.params) 58 && hasDictIn (KF w.params) 58 && (findIn (KF w.params) (.ref 58) "__setattr__" == some (some (.builtin "object.__setattr__"))) && xmakesIn (KF w.params) 58) = true := fun w => by kernel_rfl!
theorem led_exc {x : Addr} {od : Option Addr} (R : Rep a loc led s) (g : GetO x (.exc od) led) : ∃ t, s.heap.get? x = some (excObj 58 t od) := R.objs _ g.mem
theorem inst_exc {h : Heap} {x t : Addr} {d : Addr} {o : Obj} (e : h.get? x = some (excObj 58 t (some d))) (ed : h.get? d = some o) : InstAt h x (excObj 58 t (some d)) 58 (some o) := ⟨e, rfl, rfl, ed⟩
theorem inst_exc0 {h : Heap} {x t : Addr} (e : h.get? x = some (excObj 58 t none)) : InstAt h x (excObj 58 t none) 58 none := ⟨e, rfl, rfl, trivial⟩
theorem set_exc {x d : Addr} {name : Str} {av : AV} {kvs : List (Str × AV)} {led' : Led} (O : a.Ok) (ht : ∀ w : World, (takerIn (KF w.params) 58 name == some none) = true) (g : GetO x (.exc (some d)) led) (g' : GetO d (.attrs kvs) led) (hz : kvs.length ≤ 900)
    (g2 : SetO d (.attrs (putA name av kvs)) led led') (k : KU loc led') : SetAt a name (.ref x) av loc led KU := by
  rintro s v u R rfl ru
  obtain ⟨t, hx⟩ := led_exc R g
  obtain ⟨es, n, hd, he, nd⟩ := R.objs _ g'.mem
  have X := O.glob.2.keeps R.keep
  have hc := exc_dict a.w
  simp only [Bool.and_eq_true, beq_iff_eq] at hc
  obtain ⟨⟨⟨c1, c2⟩, c3⟩, c4⟩ := hc
  have hl : (getL name es).isSome = true := by
    by_cases hm : name ∈ kvs.map (·.1)
    · obtain ⟨p, hp, rfl⟩ := List.mem_map.mp hm
      obtain ⟨v, e, _⟩ := he.getL nd (show (p.1, p.2) ∈ kvs from hp)
      rw [e]; rfl
    · rw [he.getN hm]; rfl
  have hlen : ∀ l : List (Str × AV), (putA name av l).length ≤ l.length + 1 := by
    intro l
    induction l with
    | nil => simp [putA]
    | cons p r ih => unfold putA; split <;> simp; exact ih
  refine set_plain X (inst_exc hx hd) c3 (osa_exc X hx c1 (beq_iff_eq.mp (ht a.w)) fun b => own_some (s := { s with toks := s.toks + 1 }) X hx c2 (store_dict (s := { s with toks := s.toks + 1 }) hd hl ?_ fun h' hs hd' => ?_))
  · have := (he.put (name := name) (hsh := PyData.keyHash a.w.params name) (t := s.toks + 1) ru).len
    have h2 := hlen kvs
    show (putL name (PyData.keyHash a.w.params name) (.str name (s.toks + 1)) u es).length ≤ 1000
    omega
  · have tk : TK s.heap h' := TK.but hs (not_tup hd (by simp))
    obtain ⟨R', t'⟩ := R.change g2 (tk := s.toks + 1 + 1) hs ⟨_, _, hd', (he.mono tk).put (ru.mono tk), (putA_keys nd).1⟩
    exact ⟨loc, led', k, R', t'⟩
theorem set_exc0 {x : Addr} {name : Str} {av : AV} (O : a.Ok) (ht : ∀ w : World, (takerIn (KF w.params) 58 name == some none) = true) (g : GetO x (.exc none) led)
    (h : ∀ d, ∃ led', SetO x (.exc (some d)) led led' ∧ KU loc ((d, .attrs [(name, av)]) :: led')) : SetAt a name (.ref x) av loc led KU := by
  rintro s v u R rfl ru
  obtain ⟨t, hx⟩ := led_exc R g
  have X := O.glob.2.keeps R.keep
  have hc := exc_dict a.w
  simp only [Bool.and_eq_true, beq_iff_eq] at hc
  obtain ⟨⟨⟨c1, c2⟩, c3⟩, c4⟩ := hc
  obtain ⟨led', g2, k⟩ := h s.heap.objs.size
  refine set_plain X (inst_exc0 hx) c3 (osa_exc X hx c1 (beq_iff_eq.mp (ht a.w)) fun b => own_none (s := { s with toks := s.toks + 1 }) X hx c2 ?_)
  dsimp only
  obtain ⟨R1, t1⟩ := R.alloc O (o := emptyDict) (x := .attrs []) ⟨[], 0, Heap.get?_push_size _ rfl, rfl, List.nodup_nil⟩ (s.toks + 1)
  have hxs : x ≠ s.heap.objs.size := Nat.ne_of_lt (Heap.lt_size hx)
  have U := Heap.get?_update_self (fun o => { o with dict := some s.heap.objs.size }) (Heap.get?_push_of_some emptyDict hx) rfl
  obtain ⟨R2, t2⟩ := R1.change (s := { s with heap := s.heap.push emptyDict, toks := s.toks + 1 }) (SetO.there g2) (tk := s.toks + 1) (h' := (s.heap.push emptyDict).update x fun o => { o with dict := some s.heap.objs.size }) ⟨Heap.size_after_update .., fun b hb => Heap.get?_update_other _ _ (Ne.symm hb)⟩ ⟨t, U⟩
  have D : ((s.heap.push emptyDict).update x fun o => { o with dict := some s.heap.objs.size }).get? s.heap.objs.size = some (dictOf [] 0) := (Heap.get?_update_other _ _ hxs).trans (Heap.get?_push_size _ rfl)
  refine store_dict (es := []) (n := 0) D rfl (by show 1 ≤ 1000; decide) fun h' hs hd' => ?_
  have tk := TK.but hs (not_tup D (by simp))
  obtain ⟨R3, t3⟩ := R2.change (SetO.here (x := .attrs [(name, av)])) (tk := s.toks + 1 + 1) hs ⟨_, _, hd', ⟨_, _, rfl, ⟨_, rfl⟩, ru.mono ((t1.trans t2).trans tk), rfl⟩, by simp⟩
  exact ⟨loc, _, k, R3, (t1.trans t2).trans t3⟩
theorem exc_init {x : Addr} {od : Option Addr} {y : AV} (O : a.Ok) (g : GetO x (.exc od) led) (g2 : SetO x (.exc od) led led) (k : K .none loc led) : OpL a (fun vs => call (.builtin "Exception.__init__") vs) [.ref x, y] loc led K := by
  intro s vs R r
  obtain ⟨v, u, rfl, rfl, ru⟩ := r.two
  obtain ⟨t, hx⟩ := led_exc R g
  have X := O.glob.2.keeps R.keep
  have hc := exc_dict a.w
  simp only [Bool.and_eq_true, beq_iff_eq] at hc
  have Y := xmakes_of (M := a.M) X hc.2
  have F := PySem.F.excBase_Exception
  have sub : Looks a.M s.heap (isInstance (.ref x) (.type "Exception")) true := ((Looks.ld hx).andThen .now).andThen Y.exc
  refine wpAny_call (codeAny_call_builtin F.init.plain F.initEntry ?_)
  simp only [checkBuiltinCall, F.initKind, F.initSplit, F.initRow]
  have hshort := F.noStar
  obtain ⟨⟨oc, od', cd, sl, hC, e1, e2, e4, e5⟩, made, base, self, exc, bex, attr, name, call, typ⟩ := Y
  repeat (first | simp only [Bool.not_true, Bool.false_eq_true, if_false] | lk)
  have hx1 := Heap.get?_push_of_some (tupObj [u]) hx
  have R1 := R.grow (h' := s.heap.push (tupObj [u])) (fun b o e => Heap.get?_push_of_some _ e) s.toks s.drawn
  refine wpAny_load hx1 (wpAny_pure (wpAny_pure (wpAny_bind (wpAny_setField hx1 rfl (Nat.zero_lt_succ _) ?_))))
  have U := Heap.get?_update_self (Obj.mapFields (·.setIfInBounds 0 (.ref s.heap.objs.size))) hx1 rfl
  obtain ⟨R2, t2⟩ := R1.change g2 (tk := s.toks) (h' := (s.heap.push (tupObj [u])).update x (Obj.mapFields (·.setIfInBounds 0 (.ref s.heap.objs.size)))) ⟨Heap.size_after_update .., fun b hb => Heap.get?_update_other _ _ (Ne.symm hb)⟩ ⟨_, U⟩
  refine wpAny_letGo ?_
  exact wpAny_pure ⟨.none, loc, led, k, R2, (TK.keeps fun b o e => Heap.get?_push_of_some _ e).trans t2, rfl⟩
/-! ## a built-in type's function called upon an object -/
theorem opq {T : String} {M : Model} {h : Heap} (ht : typeOf (.type T) = pure (.type "type")) (hs : Manifest.isStub T = false) : Looks M h (opaqueClassAbove (.type T)) none ∧ Looks M h (typeOf (.type T)) (.type "type") := by
  refine ⟨Looks.of_pure ?_, Looks.of_pure ht⟩
  unfold opaqueClassAbove
  dsimp only
  rw [hs]; rfl
theorem ty_meth {K : Frag} {A : Around} {w : World} {E : Value → Shared → Prop} {T id : String} {name : Str} {pl : Sem Bool} {Q : Value × List Value → Shared → Prop} (X : K.In s.heap) (lo : Looks (model PW w) s.heap (opaqueClassAbove (.type T)) none) (lt : Looks (model PW w) s.heap (typeOf (.type T)) (.type "type"))
    (e : findCls K (.type T) (.type "type") name = some (.val (.builtin id))) (hh : handedIn (.builtin id) = true) (h : Q (.builtin id, []) { s with toks := s.toks + 1 }) : wpAny (model PW w) A (getMethod (.type T) name pl) Q E s := by
  have hg : findIn K (.type "type") "__getattribute__" = some (some (.builtin "type.__getattribute__")) := type_tga
  have look : Looks (model PW w) s.heap (specialOf (.type T) "__getattribute__") (some (.builtin "type.__getattribute__")) := lt.andThen (looks_findIn X hg)
  refine wpAny_bind (look.here ?_)
  dsimp only
  rw [if_pos canon_tga]
  exact wpAny_bind (wpAny_mono (Q := fun v => Q (v, [])) (cls_open X lo lt hg (looks_hook X (r := none) (by rfl)) (by show subIn K _ _ = _; rfl) e (wpAny_pure (handed_on (v := .builtin id) hh h))) (fun _ _ z => wpAny_pure z) fun _ _ z => z)
theorem Ev_methT {T id : String} {x name : Str} {np apos pos : Pos} {args : List Expr} {pl : Sem Bool} (O : a.Ok) {gs : List (Str × Value)} (G : GOk sc gs) (g : GetG x (.type T) gs) (ht : typeOf (.type T) = pure (.type "type")) (hst : Manifest.isStub T = false) (hh : handedIn (.builtin id) = true)
    (m : ∀ w : World, (match findCls (KF w.params) (.type T) (.type "type") name with | some (.val (.builtin i)) => i == id | _ => false) = true)
    (he : eval (.Call (.Attribute (.Name x np) name apos) args [] pos) a.env = (do
      let ov ← eval (.Name x np) a.env
      standAt apos.atName
      let (f, first) ← holding [ov] (getMethod ov name pl)
      callWith pos f first (backTo pos (starEach args a.env)) []))
    (hpl : (backTo pos (starEach args a.env)).any (·.1) = false) (h : EvL a args pos loc led (cCall a (.builtin id) K)) : Ev a (eval (.Call (.Attribute (.Name x np) name apos) args [] pos) a.env) loc led K := by
  intro s R
  refine MethodCall_ (pl := pl) (glob_at O R G g ?_) he
  have X := O.glob.2.keeps R.keep
  have hf : findCls (KF a.w.params) (.type T) (.type "type") name = some (.val (.builtin id)) := by
    have hm := m a.w
    split at hm
    · next i e => rw [e, beq_iff_eq.mp hm]
    · cases hm
  have hX := opq ht hst (M := a.M) (h := s.heap)
  refine ty_meth X hX.1 hX.2 hf hh ?_
  refine Calls.callWith_builtin hpl (evalArgs_any hpl ?_)
  refine wpAny_mono (h _ (R.toks (s.toks + 1))) (fun vs s₁ p => ?_) fun _ _ e => e
  obtain ⟨xs, l1, d1, k1, R1, t1, r1⟩ := p
  exact wpAny_mono (k1 s₁ vs R1 r1) (fun _ _ p => p.from t1) fun _ _ e => e
end

end

section
open PySem PySem.W PyProof.Rows PySem.Calls
/-! ## raise -/
theorem funFrames {h base : Heap} : ∀ {l : List Env}, (∀ env ∈ l, env.scope.kind ≠ .module ∧ ∃ L o, env.frame = some L ∧ base.get? L = none ∧ h.get? L = some o ∧ ∀ vs, o.data ≠ .fields vs) → h.FunFrames base l
  | [], _ => trivial
  | env :: r, H => by
    obtain ⟨k, L, o, h1, h2, h3, h4⟩ := H env (.head _)
    exact ⟨k, ⟨L, o, h1, h2, h3, h4⟩, funFrames fun e he => H e (.tail _ he)⟩
section
variable {sc : Scope} {a : Act sc} {loc : Loc} {led : Led} {s : Shared} {K : KV} {KS : KSt}
/-- Die made, and thrown -/
theorem die_call {n : Nat} {z : Str} {v : Value} {Y : Loc → Led → Prop} (F : ∀ x, FCX 55 n (fun vs => ⟨vs, []⟩) [.ref x, .str z] [(x, .exc none)] (fun av led => av = .none ∧ ∃ d kvs, led = [(x, .exc (some d)), (d, .attrs kvs)]) fun _ => False) (O : a.Ok) (H : a.hd = true) (hn : n < a.room) (h0 : 0 < n) (Z : RaiseOk a Y) (y : Y loc led)
    (hf : ∀ w : World, (findIn (KF w.params) (.ref 58) "__init__" == some (some (.ref 55)) && isFn (KF w.params) (.ref 55)) = true)
    (R0 : Rep a loc led s) (r : Rel s.heap (.str z) v) : wpAny a.M a.A (call (.ref 58) [v]) (fun v s' => ∃ x t d, v = .ref x ∧ s'.heap.get? x = some (excObj 58 t (some d)) ∧ (KF a.w.params).In s'.heap ∧ a.E (.ref x) s') a.E s := by
  have X := O.glob.2.keeps R0.keep
  have hc := exc_dict a.w
  simp only [Bool.and_eq_true, beq_iff_eq] at hc
  have Y1 := xmakes_of (M := a.M) X hc.2
  have hf1 := hf a.w
  simp only [Bool.and_eq_true, beq_iff_eq] at hf1
  obtain ⟨hh, gg, dd, tt, oo⟩ := s
  obtain ⟨⟨lo, hal⟩, hfr0, Zt⟩ := Z
  have hfr := R0.frOk O
  obtain ⟨l', hl', hfr2⟩ := id hfr
  rw [hal] at hl'; cases hl'
  refine wpAny_call (exc_core Y1 (looks_findIn X hf1.1) (fun self => bind_fn X self (beq_iff_eq.mp hf1.2)) (by show 1 ≤ _; rw [sizeLine_eq]; decide) ?_)
  have k1 : ∀ b o, hh.get? b = some o → (hh.push (tupObj [v])).get? b = some o := fun b o e => Heap.get?_push_of_some _ e
  have R1 : Rep a loc led ⟨hh.push (tupObj [v]), gg, dd, tt, oo⟩ := R0.grow k1 tt dd
  obtain ⟨R2, t2⟩ := R1.alloc O (o := excObj 58 hh.objs.size none) (x := .exc none) ⟨_, Heap.get?_push_size _ rfl⟩ tt
  have hx : (hh.push (tupObj [v])).objs.size = hh.objs.size + 1 := Heap.size_push ..
  dsimp only at R2 t2
  rw [hx] at R2
  have hin : ∀ p ∈ [(hh.objs.size + 1, AO.exc none)], p ∈ (hh.objs.size + 1, AO.exc none) :: led := fun p hp => by rw [List.mem_singleton.mp hp]; exact .head _
  have t12 := (TK.keeps k1).trans t2
  have := F (hh.objs.size + 1) (w := a.w) (mg := a.mg) (mb := a.mb) (A := a.A.under (.builtin "type.__call__" ⟨[.ref 58, v], []⟩)) (E := a.E) (vs := [.ref (hh.objs.size + 1), v]) (g := a.h₀) O.glob R2.keep (fun p hp => ⟨R2.objs p (hin p hp), (R2.apart p (hin p hp)).2⟩) (by simp) ?_ ?_ (.cons rfl (.cons (r.mono t12) .nil)) (fun l e s' _ h => h.no.elim)
  rotate_left
  · have hr := O.room
    refine ⟨fun _ => hr.1 H, ?_, ?_, h0⟩
    · have : (a.A.under (.builtin "type.__call__" ⟨[.ref 58, v], []⟩)).depth ≤ a.A.depth + 1 := by
        show a.A.depth + _ ≤ _
        exact Nat.add_le_add_left (Nat.le_of_ble_eq_true rfl) _
      have := hr.2.1; omega
    · have : (a.A.under (.builtin "type.__call__" ⟨[.ref 58, v], []⟩)).units ≤ a.A.units + 10 := by
        show a.A.units + _ ≤ _
        exact Nat.add_le_add_left (Nat.le_of_ble_eq_true rfl) _
      have := hr.2.2.1; omega
  · obtain ⟨l, hl, hf⟩ := (R2.frOk O).mono (Q := fun L => Plain _ L ∧ L ∉ [(hh.objs.size + 1, AO.exc none)].map (·.1)) fun L hL => ⟨hL.1, fun hm => hL.2 (by rw [List.map_cons]; rw [List.mem_singleton.mp (show L ∈ [hh.objs.size + 1] from hm)]; exact .head _)⟩
    exact ⟨l, hl, hf⟩
  refine codeAny_mono this fun rr s' q => ?_
  unfold InitBack
  rcases rr with e | (u | _ | _ | _)
  · exact q
  all_goals first | exact q.elim | skip
  obtain ⟨av, led', ⟨rfl, d, kvs, rfl⟩, rv, ho, hnd, hfd, hk, hg, hos⟩ := q
  obtain ⟨t, hex⟩ := (ho _ (.head _)).1
  have kk : ∀ b o, hh.get? b = some o → s'.heap.get? b = some o := fun b o e => hk b o (fun hm => by
    rw [List.mem_singleton.mp (show b ∈ [hh.objs.size + 1] from hm)] at e
    exact absurd (Nat.lt_of_succ_lt (Heap.lt_size e)) (Nat.lt_irrefl _)) (Heap.get?_push_of_some _ (k1 b o e))
  refine ⟨rv, _, t, d, rfl, hex, X.keeps kk, ?_⟩
  have hxn : hh.get? (hh.objs.size + 1) = none := Heap.get?_none_of_le (Nat.le_succ _)
  have hfrL : ∀ b ∈ frs (a.env :: lo), Plain hh b ∧ b ∉ led.map (·.1) := fun b hb => frs_mem hfr hal hb
  have ntup : ∀ b vs, IsTup hh b vs → b ∉ frs (a.env :: lo) := by
    rintro b vs ⟨o, e, hc, nn, hd⟩ hm
    obtain ⟨o', e', _, hs⟩ := (hfrL b hm).1
    rw [e] at e'; cases e'; exact hs _ _ hd
  have hB : ∀ {b o}, hh.get? b = some o → b ∉ frs (a.env :: lo) → (hideAll hh (frs (a.env :: lo))).get? b = some o := fun e hm => hideAll_get _ e hm
  have tkB : TK hh (hideAll hh (frs (a.env :: lo))) := fun b vs ht => by
    have := ntup b vs ht
    obtain ⟨o, e, r⟩ := ht
    exact ⟨o, hB e this, r⟩
  obtain ⟨m, ns, hloc⟩ := R0.ns
  refine Zt loc led (a.env :: lo) (hideAll hh (frs (a.env :: lo))) (hh.objs.size + 1) (.ref t) s' ⟨hal, ⟨m, ?_, fun x av hx => let ⟨v', e', r'⟩ := hloc x av hx; ⟨v', e', r'.mono (TK.keeps kk)⟩⟩, R0.keys, R0.kinds, R0.fresh, fun p hp => ?_, R0.apart, R0.nodup, fun b o e hb => hB (R0.keep b o e) hb, fun b hb o e => ⟨o.slots, kk b o (R0.keep b o e)⟩, .inl ⟨fun b o e => kk b o (of_hideAll _ e), ?_, ?_, ⟨_, _, hex, rfl, rfl, rfl, rfl⟩⟩, hg.trans R0.gens, hos.trans R0.os⟩ y
  · obtain ⟨o, es, ep, e, q⟩ := ns
    exact ⟨o, es, ep, kk _ _ e, q⟩
  · exact (R0.objs p hp).keep tkB fun o e => hB e fun hm => (hfrL _ hm).2 (List.mem_map_of_mem hp)
  · cases q : (hideAll hh (frs (a.env :: lo))).get? (hh.objs.size + 1) with
    | none => rfl
    | some o =>
      have := of_hideAll _ q
      rw [hxn] at this; cases this
  · refine funFrames fun env he => ?_
    obtain ⟨k, L, f, ⟨o, e, h1, h2⟩, _⟩ := hfr2 env he
    exact ⟨k, L, o, f, hideAll_none _ (List.mem_filterMap.mpr ⟨env, he, f⟩), kk _ _ e, h1⟩
theorem Ex_RaiseDie {n : Nat} {x : Str} {np cpos pos : Pos} {e1 : Expr} {Y : Loc → Led → Prop} (F : ∀ x z, FCX 55 n (fun vs => ⟨vs, []⟩) [.ref x, .str z] [(x, .exc none)] (fun av led => av = .none ∧ ∃ d kvs, led = [(x, .exc (some d)), (d, .attrs kvs)]) fun _ => False) (O : a.Ok) (H : a.hd = true) (hn : n < a.room) (h0 : 0 < n) (Z : RaiseOk a Y)
    (hf : ∀ w : World, (findIn (KF w.params) (.ref 58) "__init__" == some (some (.ref 55)) && isFn (KF w.params) (.ref 55)) = true) (hk : ∀ w : World, keepIn (KF w.params) (.ref 58) = true)
    {gs : List (Str × Value)} (G : GOk sc gs) (g : GetG x (.ref 58) gs) (hpl : (backTo cpos (starEach [e1] a.env)).any (·.1) = false)
    (h : EvL a [e1] cpos loc led fun xs loc led => ∃ z, xs = [.str z] ∧ Y loc led) : Ex a (exec (.Raise (some (.Call (.Name x np) [e1] [] cpos)) none pos) a.env) loc led KS := by
  intro s R
  rw [arm_exec_Raise]
  refine wpAny_bind (wpAny_standAt ?_)
  have eo1 : ∀ x, evalOpt (some x) a.env = some (eval x a.env) := fun _ => rfl
  have eo2 : evalOpt none a.env = none := rfl
  simp only [eo1, eo2, Option.map]
  unfold raiseStmt
  dsimp only
  have call : wpAny a.M a.A (eval (.Call (.Name x np) [e1] [] cpos) a.env) (fun v s' => ∃ x t d, v = .ref x ∧ s'.heap.get? x = some (excObj 58 t (some d)) ∧ (KF a.w.params).In s'.heap ∧ a.E (.ref x) s') a.E s := by
    refine wpAny_Call_NameR (glob_at O R G g ?_)
    refine callWith_of (P := fun h => (KF a.w.params).In h) (by rw [hpl]; rfl) (keeps_K (hk a.w)) (evalArgs_any hpl ?_)
    refine wpAny_mono (h s R) (fun vs s₁ p => ?_) fun _ _ e => e
    obtain ⟨xs, l1, d1, ⟨z, rfl, y⟩, R1, t1, r1⟩ := p
    obtain ⟨v, rfl, rv⟩ := r1.one
    exact ⟨O.glob.2.keeps R1.keep, die_call (fun x => F x z) O H hn h0 Z y hf R1 rv⟩
  refine wpAny_bind (wpAny_bind (wpAny_mono call (fun v s' p => wpAny_bind (wpAny_standAt (wpAny_pure ?_))) fun _ _ e => e))
  obtain ⟨e, t, d, rfl, hx, X, hE⟩ := p
  have hc := exc_dict a.w
  simp only [Bool.and_eq_true, beq_iff_eq] at hc
  obtain ⟨⟨oc, od', cd, sl, hC, e1, e2, e4, e5⟩, made, base, self, exc, bex, attr, name, call, typ⟩ := xmakes_of (M := a.M) X hc.2
  have t0 : Looks a.M s'.heap (typeOf (.ref e)) (.ref 58) := (Looks.ld hx).andThen .now
  repeat (first | simp only [Bool.false_eq_true, if_false] | lk)
  rw [if_pos e5]
  refine wpAny_pure (wpAny_bind ?_)
  unfold setFlight
  refine wpAny_bind (wpAny_field (x := .none) hx rfl rfl ?_)
  rw [if_neg (show ¬ ((Value.none != Value.none) = true) from by decide)]
  exact wpAny_pure (wpAny_raiseNew_none (O.room.1 H) hE)
end

end

section
open PySem PySem.W PyProof.Rows PySem.Calls
/-! ## a catch -/
/-- what a suite that ends the def leaves, in the words of the def's start -/
noncomputable def EscP (w : World) (l : List Env) (h₀ : Heap) (gens : Array GenState) (os : OsState) (R : AV → Led → Prop) (v : Value) (s' : Shared) : Prop :=
  ∃ av led', R av led' ∧ Rel s'.heap av v ∧ (∀ p ∈ led', ObjIs w s'.heap p.1 p.2 ∧ h₀.get? p.1 = none ∧ mainGlobals < p.1) ∧ (led'.map (·.1)).Nodup ∧ (∀ b o, b ∉ frs l → h₀.get? b = some o → s'.heap.get? b = some o) ∧
    (∀ b ∈ frs l, ∀ o, h₀.get? b = some o → ∃ sl, s'.heap.get? b = some { o with slots := sl }) ∧ s'.gens = gens ∧ s'.os = os
structure EscOk {sc : Scope} (a : Act sc) (R : AV → Led → Prop) : Prop where
  g : ∃ g, Glob a.w a.mg a.mb g ∧ (∀ b o, g.get? b = some o → a.h₀.get? b = some o) ∧ ∀ l, a.A.frames = some l → ∀ b ∈ frs l, g.get? b = none
  X : ∀ v s', (∀ l, a.A.frames = some l → EscP a.w l a.h₀ a.gens a.os R v s') → a.X (.ret v) s'
section
variable {sc : Scope} {a : Act sc} {loc : Loc} {led : Led} {s : Shared} {K : KV} {KS : KSt}
theorem Rep.glob {g : Heap} {mg mb : Str → Option Value} {w : World} {h : Heap} (G : Glob w mg mb g) (k : ∀ b o, g.get? b = some o → h.get? b = some o) : Glob w mg mb h := G.keeps k
noncomputable abbrev cLast (R : AV → Led → Prop) : KSt := fun af _ led => ∃ v, af = .ret v ∧ Has led (R v)
/-- within an except suite -/
noncomputable def Act.suite {sc : Scope} (a : Act sc) (e : Value) (E : Value → Shared → Prop) (h : Heap) : Act sc := { a with A := a.A.mark (some e), E := E, h₀ := h, hd := false, X := fun _ _ => False }
theorem caught {e : Addr} {a0 : Value} {R : AV → Led → Prop} {b₀ : Stmt} {suite : List Stmt} {x : Str} {np pos : Pos} {l : List Env} {B : Heap} {Q : Flow → Shared → Prop} {s' : Shared} (O : a.Ok) (Z : EscOk a R) (hal : ∃ lo, a.A.frames = some (a.env :: lo)) (hfr : a.fr = some a.L)
    {gs : List (Str × Value)} (G : GOk sc gs) (g : GetG x (.ref 58) gs) (hcls : ∀ w : World, ktsIn (KF w.params) 58 "BaseException" = true)
    (T : Thrown a loc led l B e a0 s') (hs : ∀ b : Act sc, b.Ok → b.hd = false → b.room = a.room → b.cl = a.cl → Ex b (execs (b₀ :: suite) b.env) loc led (cLast R)) (hQ : ∀ v s', a.X (.ret v) s' → Q (.ret v) s') :
    wpAny a.M a.A (noteFrame (.ref e) a.env) (fun _ s₂ => wpAny a.M a.A (setFlight (.ref e) none) (fun _ s₃ => wpAny a.M a.A (handleBy (.ref e) a.env [.ExceptHandler (some (.Name x np)) none (b₀ :: suite) pos]) Q a.E s₃) a.E s₂) a.E s' := by
  obtain ⟨lo, hal⟩ := hal
  have hT := T.fr
  rw [hal] at hT; cases hT
  have hf : a.env.frame = some a.L := hfr
  obtain ⟨g0, hG0, hg0, hgn⟩ := Z.g
  have hFF : s'.heap.FunFrames B (a.env :: lo) := by
    rcases T.fly with ⟨_, _, h, _⟩ | ⟨_, _, h, _⟩ | ⟨_, _, h, _⟩ <;> exact h
  obtain ⟨l', hl', hfrs⟩ := O.frs
  rw [hal] at hl'; cases hl'
  -- an activation at a heap behind the landing
  have act : ∀ (h₃ : Heap) (E : Value → Shared → Prop), B.StaysIn h₃ → s'.heap.UpToSlots h₃ → (a.suite (.ref e) E (hideAll h₃ (a.L :: led.map (·.1)))).Ok ∧
      ∀ s₃ : Shared, s₃.heap = h₃ → s₃.gens = s'.gens → s₃.os = s'.os → Rep (a.suite (.ref e) E (hideAll h₃ (a.L :: led.map (·.1)))) loc led s₃ := by
    intro h₃ E hst up
    have hin : ∀ {b o}, h₃.get? b = some o → b ≠ a.L → b ∉ led.map (·.1) → (hideAll h₃ (a.L :: led.map (·.1))).get? b = some o := fun {b o} eb h1 h2 => hideAll_get _ eb fun hm => by
      rcases List.mem_cons.mp hm with q | hm
      · exact h1 q
      · exact h2 hm
    have hap : ∀ {b o}, a.h₀.get? b = some o → b ∉ led.map (·.1) := fun {b o} eb hm => by
      obtain ⟨p, hp, rfl⟩ := List.mem_map.mp hm
      rw [(T.apart p hp).2.1] at eb; cases eb
    have hLl : a.L ∉ led.map (·.1) := fun hm => by
      obtain ⟨p, hp, q⟩ := List.mem_map.mp hm
      exact (T.apart p hp).1 q
    have gs3 : ∀ b o, g0.get? b = some o → (hideAll h₃ (a.L :: led.map (·.1))).get? b = some o := fun b o eb => by
      have nf : b ∉ frs (a.env :: lo) := fun hm => by
        have := hgn _ hal b hm
        rw [eb] at this; cases this
      refine hin (hst b o (T.base b o (hg0 b o eb) nf)) (fun q => nf ?_) (hap (hg0 b o eb))
      rw [q]; exact List.mem_filterMap.mpr ⟨a.env, .head _, hf⟩
    refine ⟨⟨O.kind, ⟨a.env :: lo, hal, fun env hm => ?_⟩, hG0.keeps gs3, ⟨fun h => (nomatch h), O.room.2⟩, fun _ _ h => h.elim⟩, fun s₃ q1 q2 q3 => ?_⟩
    · obtain ⟨k, L, f, p⟩ := hfrs env hm
      refine ⟨k, L, f, ?_⟩
      rcases p with p | ⟨o, eo, h1, h2⟩
      · exact .inl p
      · by_cases hL : L = a.L
        · exact .inl hL
        · obtain ⟨sl, es⟩ := T.slots L (List.mem_filterMap.mpr ⟨env, hm, f⟩) o eo
          obtain ⟨sl', es'⟩ := up L _ es h1
          exact .inr ⟨_, hin es' hL (hap eo), h1, h2⟩
    · obtain ⟨m, ns, hloc⟩ := T.ns
      have tk : TK s'.heap h₃ := fun b vs ⟨o, eo, hc, n, hd⟩ => by
        obtain ⟨sl, es⟩ := up b o eo fun ws q => by rw [hd] at q; cases q
        exact ⟨_, es, hc, n, hd⟩
      subst q1
      refine ⟨q2.trans T.gens, q3.trans T.os, fun b o eb => of_hideAll _ eb, ⟨m, up.ns ns, fun y av hy => let ⟨v', e', r'⟩ := hloc y av hy; ⟨v', e', r'.mono tk⟩⟩, T.keys, T.kinds, fun p hp => (T.objs p hp).keep (TK.keeps hst) fun o eo => hst _ o eo, fun p hp => ⟨(T.apart p hp).1, hideAll_none _ (.tail _ (List.mem_map_of_mem hp)), (T.apart p hp).2.2⟩, T.nodup, hideAll_none _ (.head _)⟩
  -- what the suite leaves
  have out : ∀ (h₃ : Heap) (E : Value → Shared → Prop), B.StaysIn h₃ → s'.heap.UpToSlots h₃ → ∀ {v : Value} {av : AV} {loc' : Loc} {led' : Led} {s₄ : Shared}, Has led' (R av) → Rep (a.suite (.ref e) E (hideAll h₃ (a.L :: led.map (·.1)))) loc' led' s₄ → Rel s₄.heap av v → a.X (.ret v) s₄ := by
    intro h₃ E hst up v av loc' led' s₄ k R4 r
    refine Z.X v s₄ fun l hl => ?_
    rw [hal] at hl; cases hl
    obtain ⟨led2, k2, R5⟩ := R4.has k
    have hin : ∀ {b o}, h₃.get? b = some o → a.h₀.get? b ≠ none → (hideAll h₃ (a.L :: led.map (·.1))).get? b = some o := fun {b o} eb hn => hideAll_get _ eb fun hm => by
      rcases List.mem_cons.mp hm with q | hm
      · rw [q, T.fresh] at hn; exact hn rfl
      · obtain ⟨p, hp, rfl⟩ := List.mem_map.mp hm
        exact hn (T.apart p hp).2.1
    have keepB : ∀ b o, b ∉ frs (a.env :: lo) → a.h₀.get? b = some o → (hideAll h₃ (a.L :: led.map (·.1))).get? b = some o := fun b o hb eb => hin (hst b o (T.base b o eb hb)) (by rw [eb]; exact fun q => nomatch q)
    have keepF : ∀ b ∈ frs (a.env :: lo), ∀ o, a.h₀.get? b = some o → ∃ sl, (hideAll h₃ (a.L :: led.map (·.1))).get? b = some { o with slots := sl } := fun b hb o eb => by
      obtain ⟨sl, es⟩ := T.slots b hb o eb
      obtain ⟨o2, hg2, hnf⟩ := (hFF.mem hb).2
      rw [es] at hg2; cases hg2
      obtain ⟨sl', es'⟩ := up b _ es hnf
      exact ⟨sl', hin es' (by rw [eb]; exact fun q => nomatch q)⟩
    refine ⟨av, led2, k2, r, fun p hp => ⟨R5.objs p hp, ?_, (R5.apart p hp).2.2⟩, R5.nodup, fun b o hb eb => R5.keep b o (keepB b o hb eb), fun b hb o eb => ?_, R5.gens, R5.os⟩
    · cases q : a.h₀.get? p.1 with
      | none => rfl
      | some o =>
        have h1 := (R5.apart p hp).2.1
        by_cases hb : p.1 ∈ frs (a.env :: lo)
        · obtain ⟨sl, es⟩ := keepF _ hb o q
          rw [show (a.suite (.ref e) E (hideAll h₃ (a.L :: led.map (·.1)))).h₀ = hideAll h₃ (a.L :: led.map (·.1)) from rfl, es] at h1; cases h1
        · rw [show (a.suite (.ref e) E (hideAll h₃ (a.L :: led.map (·.1)))).h₀ = hideAll h₃ (a.L :: led.map (·.1)) from rfl, keepB _ o hb q] at h1; cases h1
    · obtain ⟨sl, es⟩ := keepF b hb o eb
      exact ⟨sl, R5.keep b _ es⟩
  -- the heap behind the landing
  have fin : ∀ s'' : Shared, s''.gens = s'.gens → s''.os = s'.os → s'.heap.UpToSlots s''.heap → Heap.HeldW B (a.env :: lo) e (.ref 58) a0 a.L s''.heap → wpAny a.M a.A (setFlight (.ref e) none) (fun _ s₃ => wpAny a.M a.A (handleBy (.ref e) a.env [.ExceptHandler (some (.Name x np)) none (b₀ :: suite) pos]) Q a.E s₃) a.E s'' := by
    intro s₂ e1 e2 up2 hh
    refine wpAny_landsW hh fun h₃ hfl up3 => ?_
    refine wpAny_handleBy_cons (codeAny_handlers_test ?_) (by intro q; cases q)
    obtain ⟨O3, R3⟩ := act h₃ (notedBy a.M (a.A.mark (some (.ref e))) a.env fun x s₁ => cameBackBy a.M a.A a.env a.E x s₁) hfl.1 (up2.trans up3)
    have R3 := R3 { s₂ with heap := h₃ } rfl e1 e2
    refine glob_at O3 R3 G g ?_
    obtain ⟨ob, hob, hobc⟩ := hfl.there
    obtain ⟨nm, q', N, bs, bm, hdct, sn, sub, ab, col, dd, k0, k1, k2, k3, k5, newId, hC, hbase, hbT⟩ := kts_cls (O3.glob.2.keeps R3.keep) (hcls a.w)
    refine wpAny_excMatches_sub_self hC hob hobc hbase (codeAny_handlers_suite ?_)
    refine lands_againW hfl fun h₆ hfl₆ up6 => ?_
    have up : s'.heap.UpToSlots h₆ := (up2.trans up3).trans up6
    obtain ⟨O6, R6⟩ := act h₆ (notedBy a.M (a.A.mark (some (.ref e))) a.env fun x s₁ => cameBackBy a.M a.A a.env a.E x s₁) hfl₆.1 up
    have R6 := R6 { s₂ with heap := h₆ } rfl e1 e2
    refine wpAny_mono (hs _ O6 rfl rfl rfl _ R6) (fun f s₇ p => ?_) fun _ _ e => e
    rcases p with ⟨af, l1, d1, ⟨v, rfl, k⟩, R7, t7, r7⟩ | hx
    rotate_left
    · exact hx.elim
    obtain ⟨u, rfl, r7⟩ := r7
    exact hQ u s₇ (out h₆ _ hfl₆.1 up k R7 r7)
  rcases T.fly with ⟨n1, n2, n3, oe, vs, n4, n5, n6, n7, n8⟩ | hh | hfl
  · unfold noteFrame
    simp only [hf]
    refine wpAny_bind (wpAny_field n4 n6 n8 ?_)
    rw [if_neg (by decide)]
    refine wpAny_entryW hal n3 hf n4 n1 n2 n6 (Array.getElem?_eq_some_iff.mp n8).1 n7 fun h' hN => ?_
    obtain ⟨k1, k2, k3, k4⟩ := hN
    exact fin { s' with heap := h' } rfl rfl k4 ⟨k1, n2, k2, n5 ▸ k3⟩
  · exact wpAny_noteFrame_againW (L := a.L) hf hh.2.2.2 (fin s' rfl rfl (.refl _) hh)
  · exact wpAny_looks_onW hal hf hfl fun h' hh hup => fin { s' with heap := h' } rfl rfl hup hh
end

end

section
open PySem PySem.W PyProof.Rows PySem.Calls
section
variable {sc : Scope} {a : Act sc} {loc : Loc} {led : Led} {s : Shared} {K : KV} {KS : KSt}
theorem Thrown.untried {E : Value → Shared → Prop} {l : List Env} {B : Heap} {e : Addr} {a0 : Value} {s' : Shared} (T : Thrown (a.tried E) loc led l B e a0 s') : Thrown a loc led l B e a0 s' :=
  ⟨T.fr, T.ns, T.keys, T.kinds, T.fresh, T.objs, T.apart, T.nodup, T.base, T.slots, T.fly, T.gens, T.os⟩
/-- try with «except Die», whose suite ends the def -/
theorem Ex_TryDie {Y Y0 : Loc → Led → Prop} {R : AV → Led → Prop} {body : List Stmt} {b₀ : Stmt} {suite : List Stmt} {x : Str} {np hpos pos : Pos} (O : a.Ok) (Z0 : RaiseOk a Y0) (Z : EscOk a R) {gs : List (Str × Value)} (G : GOk sc gs) (g : GetG x (.ref 58) gs) (hcls : ∀ w : World, ktsIn (KF w.params) 58 "BaseException" = true)
    (hb : ∀ E, (a.tried E).Ok → RaiseOk (a.tried E) Y → Ex (a.tried E) (execs body (a.tried E).env) loc led KS)
    (hs : ∀ (b : Act sc) loc led, Y loc led → b.Ok → b.hd = false → b.room = a.room → b.cl = a.cl → Ex b (execs (b₀ :: suite) b.env) loc led (cLast R)) :
    Ex a (exec (.Try body [.ExceptHandler (some (.Name x np)) none (b₀ :: suite) hpos] [] [] pos) a.env) loc led KS := by
  intro s R0
  let E : Value → Shared → Prop := fun e s₁ => wpAny a.M a.A (noteFrame e a.env) (fun _ s₂ => wpAny a.M a.A (setFlight e none) (fun _ s₃ => wpAny a.M a.A (handleBy e a.env [.ExceptHandler (some (.Name x np)) none (b₀ :: suite) hpos]) (PostF a s.heap KS) a.E s₃) a.E s₂) a.E s₁
  have ZE : RaiseOk (a.tried E) Y := ⟨Z0.1, Z0.2.1, fun loc led l base e a0 s' T hY => caught O Z Z0.1 Z0.2.1 G g hcls T.untried (fun b => hs b loc led hY) fun v s' h => .inr h⟩
  refine wpAny_Try_except (wpAny_mono (hb E O.tried ZE s R0.tried) (fun f s₁ p => ?_) fun _ _ e => e)
  rcases p with ⟨af, l1, d1, k1, R1, t1, r1⟩ | hx
  · cases af with
    | next => cases r1; exact wpAny_execs_nil (.inl ⟨.next, l1, d1, k1, R1.untried, t1, rfl⟩)
    | brk => cases r1; exact .inl ⟨.brk, l1, d1, k1, R1.untried, t1, rfl⟩
    | cont => cases r1; exact .inl ⟨.cont, l1, d1, k1, R1.untried, t1, rfl⟩
    | ret v => obtain ⟨u, rfl, r⟩ := r1; exact .inl ⟨.ret v, l1, d1, k1, R1.untried, t1, u, rfl, r⟩
  · obtain ⟨v, rfl⟩ := O.esc _ _ hx
    exact .inr hx
end

/-! ## a def that catches: its contract -/
noncomputable def FPostW (w : World) (l : List Env) (s : Shared) (led : Led) (R : AV → Led → Prop) (v : Value) (s' : Shared) : Prop :=
  ∃ av led', R av led' ∧ Rel s'.heap av v ∧ (∀ p ∈ led', ObjIs w s'.heap p.1 p.2 ∧ mainGlobals < p.1) ∧ (led'.map (·.1)).Nodup ∧ (∀ p ∈ led', p.1 ∈ led.map (·.1) ∨ s.heap.get? p.1 = none) ∧
    (∀ b o, b ∉ led.map (·.1) → b ∉ frs l → s.heap.get? b = some o → s'.heap.get? b = some o) ∧ (∀ b ∈ frs l, ∀ o, s.heap.get? b = some o → ∃ sl, s'.heap.get? b = some { o with slots := sl }) ∧ s'.gens = s.gens ∧ s'.os = s.os
noncomputable def FSW (f : Addr) (n : Nat) (args : List AV) (led : Led) (R : AV → Led → Prop) : Prop :=
  ∀ {w : World} {mg mb : Str → Option Value} {A : Around} {E : Value → Shared → Prop} {s : Shared} {vs : List Value} {g : Heap}, Glob w mg mb g → (∀ b o, g.get? b = some o → s.heap.get? b = some o) →
    (∀ p ∈ led, ObjIs w s.heap p.1 p.2 ∧ g.get? p.1 = none ∧ mainGlobals < p.1) → (led.map (·.1)).Nodup → Room true A n → FrOk A (fun L => Plain s.heap L ∧ L ∉ led.map (·.1)) → RelL s.heap args vs →
    (∀ l, A.frames = some l → ∀ b ∈ frs l, g.get? b = none) → wpAny (model PW w) A (call (.ref f) vs) (fun v s' => ∀ l, A.frames = some l → FPostW w l s led R v s') E s
theorem FSW.introC {f : Addr} {n : Nat} {args : List AV} {led : Led} {R : AV → Led → Prop} {name qual : Str} {params : Arguments} {body : List Stmt} {sc' : Scope} {dV kV doc pm cdv ct oc : Value} {an od : Option Addr} {osl : Array (Option Value)} (sc : Scope) (xs : List Str) (loc₀ : Loc) (cs : List (Str × Option AV)) (cn : List Str) (hce : cs.map (·.1) = cn)
    (ho : ∀ P, (KF P).lookup f = some ⟨oc, od, .func (fnOf name qual params body sc' dV kV doc pm an cdv ct), osl⟩) (hcd : ∀ P, codeIn (KF P) cdv qual = true) (hs : sc' = sc)
    (hl : args.length = xs.length) (hnx : xs.Nodup) (hbind : ∀ vs : List Value, vs.length = xs.length → bindArgs (fnOf name qual params body sc' dV kV doc pm an cdv ct) ⟨vs, []⟩ = pure (xs.zip vs))
    (hxs : xs.all (fun x => decide (sc.names.lookup x = some .local) || (decide (sc.names.lookup x = some .cell) && ((cellsFrom 0 sc.names []).lookup x).isSome)) = true)
    (hloc : (loc₀.map (·.1)).all (fun x => decide (sc.names.lookup x = some .local) && !(x == ("__debug__" : Str))) = true) (hnd : (loc₀.map (·.1)).Nodup)
    (hcs : cn.all (fun x => decide (sc.names.lookup x = some .cell) && ((cellsFrom 0 sc.names []).lookup x).isSome) = true) (hcn : cn.Nodup)
    (hco : sc.isCoroutine = false) (hgen : sc.isGenerator = false) (hk : sc.kind = .function)
    (hl₀ : ∀ x av, (x, some av) ∈ loc₀ → (x, av) ∈ xs.zip args) (hc₀ : ∀ x av, (x, some av) ∈ cs → (x, av) ∈ xs.zip args)
    (hb : ∀ (a : Act sc) (ad : Str → Addr), a.Ok → a.room = n → a.hd = true → (∀ x ∈ cn, a.cl.lookup x = some (ad x)) → RaiseOk a (cX fun _ => False) → EscOk a R → Ex a (execs body a.env) loc₀ (cellsAt ad cs ++ led) (cBack R)) (hn : 0 < n) : FSW f (n + 1) args led R := by
  intro w mg mb A E s vs g hg hgk hled hnod hroom hfr hr hgf
  obtain ⟨lo, hlo, _⟩ := id hfr
  refine FSX.introCG (X := fun _ => False) sc xs loc₀ cs cn hce ho hcd hs hl hnx hbind hxs hloc hnd hcs hcn hco hgen hk hl₀ hc₀ (fun a => EscOk a R) (fun a ad O hr hh hcl Z X => hb a ad O hr hh hcl Z X) hn
    (fun f s' => ∃ v, f = .ret v ∧ ∃ (l' : List Env) (L' : Addr), frs l' = L' :: frs lo ∧ s.heap.get? L' = none ∧ EscP w l' (hideAll s.heap (led.map (·.1))) s.gens s.os R v s') _ ?_ ?_ ?_ hg hgk hled hnod hroom hfr hr (fun l e s' _ h => h.no.elim)
  · rintro fl s' ⟨v, rfl, l', L', hl', hL', av, led', hR, hr', ho', hn', hk', hf', hg', hos'⟩
    refine ⟨v, rfl, fun l hlA => ?_⟩
    rw [hlo] at hlA; cases hlA
    refine ⟨av, led', hR, hr', fun p hp => ⟨(ho' p hp).1, (ho' p hp).2.2⟩, hn', fun p hp => ?_, fun b o hb hbf e => hk' b o (fun hm => ?_) (hideAll_get _ e hb), fun b hb o e => ?_, hg', hos'⟩
    · by_cases hm : p.1 ∈ led.map (·.1)
      · exact .inl hm
      · refine .inr ?_
        cases q : s.heap.get? p.1 with
        | none => rfl
        | some o =>
          have := (ho' p hp).2.1
          rw [hideAll_get _ q hm] at this; cases this
    · rw [hl'] at hm
      rcases List.mem_cons.mp hm with q | hm
      · exact gone2 q e hL'
      · exact hbf hm
    · have := frs_mem hfr hlo hb
      exact hf' b (by rw [hl']; exact .tail _ hb) o (hideAll_get _ e this.2)
  · rintro v s' ⟨av, led', hR, hr', ho', hn', hf', hk', hg', hos'⟩ l hlA
    rw [hlo] at hlA; cases hlA
    exact ⟨av, led', hR, hr', ho', hn', hf', fun b o hb _ e => hk' b o hb e, fun b hb o e => ⟨o.slots, hk' b o (frs_mem hfr hlo hb).2 e⟩, hg', hos'⟩
  · intro a L hL U
    have hal : a.A.frames = some (a.env :: lo) := by rw [U.A]; exact Around.frames_deeper hlo
    have hfL : frs (a.env :: lo) = L :: frs lo := by
      show List.filterMap _ _ = _
      rw [List.filterMap_cons, show a.env.frame = some L from U.fr]; rfl
    refine ⟨⟨g, by rw [U.w, U.mg, U.mb]; exact hg, fun b o e => ?_, fun l hl b hb => ?_⟩, fun v s' h => ?_⟩
    · rw [U.h₀]
      refine hideAll_get _ (hgk b o e) fun hm => ?_
      obtain ⟨p, hp, rfl⟩ := List.mem_map.mp hm
      exact gone e (hled p hp).2.1
    · rw [hal] at hl; cases hl
      rw [hfL] at hb
      rcases List.mem_cons.mp hb with q | hb
      · rw [q]
        cases e : g.get? L with
        | none => rfl
        | some o => rw [hgk _ _ e] at hL; cases hL
      · exact hgf lo hlo b hb
    · have := h _ hal
      rw [U.w, U.h₀, U.gens, U.os] at this
      rw [U.X]
      exact ⟨v, rfl, _, L, hfL, hL, this⟩

section
variable {sc : Scope} {a : Act sc} {loc : Loc} {led : Led} {s : Shared} {K : KV}
theorem OpL_FSW {f : Addr} {n : Nat} {args : List AV} {led1 rest : Led} {R : AV → Led → Prop} (F : FSW f n args led1 R) (O : a.Ok) (H : a.hd = true) (hn : n ≤ a.room) (h0 : 0 < n) (hF : ∀ l, a.A.frames = some l → ∀ b ∈ frs l, b = a.L) (p : PickO led led1 rest)
    (k : ∀ av led', R av led' → Appd led' rest (K av loc)) : OpL a (fun vs => call (.ref f) vs) args loc led K := by
  intro s vs R0 r
  replace R0 := R0.perm p.perm
  have hin : ∀ p ∈ led1, p ∈ led1 ++ rest := fun p hp => List.mem_append_left _ hp
  have hir : ∀ p ∈ rest, p ∈ led1 ++ rest := fun p hp => List.mem_append_right _ hp
  have hnd := R0.nodup
  rw [List.map_append, List.nodup_append] at hnd
  have hfr := R0.frOk O
  obtain ⟨lo, hlo, _⟩ := id hfr
  have hfL := hF lo hlo
  refine wpAny_mono (F (g := a.h₀) (E := a.E) O.glob R0.keep (fun p hp => ⟨R0.objs p (hin p hp), (R0.apart p (hin p hp)).2⟩) hnd.1 (O.room.le (fun _ => H) hn h0) (hfr.mono fun L hL => ⟨hL.1, fun hm => hL.2 (by rw [List.map_append]; exact List.mem_append_left _ hm)⟩) r (fun l hl b hb => by rw [hF l hl b hb]; exact R0.fresh)) (fun v s' p => ?_) fun _ _ e => e
  obtain ⟨av, led', hR, hr, ho, hn', hf, hk, hsl, hg, hos⟩ := p lo hlo
  have hL1 : a.L ∉ led1.map (·.1) := fun hm => by
    obtain ⟨p, hp, e⟩ := List.mem_map.mp hm
    exact (R0.apart p (hin p hp)).1 e
  obtain ⟨m, ns, l⟩ := R0.ns
  have kk : ∀ b o, b ∉ led1.map (·.1) → b ≠ a.L → s.heap.get? b = some o → s'.heap.get? b = some o := fun b o h1 h2 e => hk b o h1 (fun hm => h2 (hfL b hm)) e
  have tk : TK s.heap s'.heap := fun b vs ht => by
    by_cases hb : b = a.L
    · exact absurd (hb ▸ ht) (ns_cls ns vs)
    · obtain ⟨o, e, hc, q⟩ := ht
      refine ⟨o, kk b o (fun hm => ?_) hb e, hc, q⟩
      obtain ⟨p, hp, rfl⟩ := List.mem_map.mp hm
      obtain ⟨o', e', hn⟩ := (R0.objs p (hin p hp)).there
      exact hn _ ⟨o, e, hc, q⟩
  have nsL : s'.heap.Ns a.L m := by
    obtain ⟨o, es, ep, e, q⟩ := ns
    by_cases hb : a.L ∈ frs lo
    · obtain ⟨sl, e'⟩ := hsl _ hb o e
      exact ⟨_, es, ep, e', q⟩
    · exact ⟨o, es, ep, hk _ _ hL1 hb e, q⟩
  refine ⟨av, loc, led' ++ rest, (k av led' hR).out, ⟨hg.trans R0.gens, hos.trans R0.os, fun b o e => ?_, ⟨m, nsL, fun x bv hx => let ⟨v', e', r'⟩ := l x bv hx; ⟨v', e', r'.mono tk⟩⟩, R0.keys, R0.kinds, fun p hp => ?_, fun p hp => ?_, ?_, R0.fresh⟩, tk, hr⟩
  · refine kk b o (fun hm => ?_) (fun q => ?_) (R0.keep b o e)
    · obtain ⟨p, hp, rfl⟩ := List.mem_map.mp hm
      exact gone e (R0.apart p (hin p hp)).2.1
    · exact gone2 q e (R0.fresh)
  · rcases List.mem_append.mp hp with hp | hp
    · exact (ho p hp).1
    · exact (R0.objs p (hir p hp)).keep tk fun o e => kk _ o (fun hm => hnd.2.2 _ hm _ (List.mem_map_of_mem hp) rfl) (R0.apart p (hir p hp)).1 e
  · rcases List.mem_append.mp hp with hp | hp
    · rcases hf p hp with hm | hm
      · obtain ⟨q, hq, e⟩ := List.mem_map.mp hm
        have := R0.apart q (hin q hq)
        rw [e] at this; exact this
      · refine ⟨fun e => ?_, ?_, (ho p hp).2⟩
        · obtain ⟨o, es, ep, e', q⟩ := ns
          rw [e, e'] at hm; cases hm
        · cases q : a.h₀.get? p.1 with
          | none => rfl
          | some o => exact gone (R0.keep _ _ q) hm
    · exact R0.apart p (hir p hp)
  · rw [List.map_append, List.nodup_append]
    refine ⟨hn', hnd.2.1, fun x hx y hy e => ?_⟩
    subst e
    obtain ⟨p, hp, e⟩ := List.mem_map.mp hx
    obtain ⟨q, hq, e'⟩ := List.mem_map.mp hy
    rcases hf p hp with hm | hm
    · exact hnd.2.2 x (e ▸ hm) x hy rfl
    · obtain ⟨o, eo, _⟩ := (R0.objs q (hir q hq)).there
      rw [e, ← e', eo] at hm; cases hm
end

end

section
open PySem PySem.W PyProof.Rows
/-! ## the global names -/
theorem gl_Die : Gl (Str.ofString "Die") (.ref 58) := Gl.own fun w => by kernel_rfl!
theorem gl_Thing : Gl (Str.ofString "Thing") (.ref 96) := Gl.own fun w => by kernel_rfl!
theorem gl_Scalar : Gl (Str.ofString "Scalar") (.ref 117) := Gl.own fun w => by kernel_rfl!
theorem gl_Array : Gl (Str.ofString "Array") (.ref 136) := Gl.own fun w => by kernel_rfl!
theorem gl_Hash : Gl (Str.ofString "Hash") (.ref 155) := Gl.own fun w => by kernel_rfl!
theorem gl_Ref : Gl (Str.ofString "Ref") (.ref 213) := Gl.own fun w => by kernel_rfl!
theorem gl_Heap : Gl (Str.ofString "Heap") (.ref 276) := Gl.own fun w => by kernel_rfl!
theorem gl_need_scalar : Gl (Str.ofString "need_scalar") (.ref 308) := Gl.own fun w => by kernel_rfl!
theorem gl_number_text : Gl (Str.ofString "number_text") (.ref 315) := Gl.own fun w => by kernel_rfl!
theorem gl_value_of : Gl (Str.ofString "value_of") (.ref 322) := Gl.own fun w => by kernel_rfl!
theorem gl_to_text : Gl (Str.ofString "to_text") (.ref 329) := Gl.own fun w => by kernel_rfl!
theorem gl_group_text : Gl (Str.ofString "group_text") (.ref 336) := Gl.own fun w => by kernel_rfl!
theorem gl_SHORT_ESCAPES : Gl (Str.ofString "SHORT_ESCAPES") (.ref 337) := Gl.own fun w => by kernel_rfl!
theorem gl_digits_value : Gl (Str.ofString "digits_value") (.ref 344) := Gl.own fun w => by kernel_rfl!
theorem gl_escape_at : Gl (Str.ofString "escape_at") (.ref 365) := Gl.own fun w => by kernel_rfl!
theorem gl_TransTable : Gl (Str.ofString "TransTable") (.ref 389) := Gl.own fun w => by kernel_rfl!
theorem gl_guarded_at : Gl (Str.ofString "guarded_at") (.ref 400) := Gl.own fun w => by kernel_rfl!
theorem gl_trans_signs : Gl (Str.ofString "trans_signs") (.ref 407) := Gl.own fun w => by kernel_rfl!
theorem gl_trans_codes : Gl (Str.ofString "trans_codes") (.ref 414) := Gl.own fun w => by kernel_rfl!
theorem gl_plain_table : Gl (Str.ofString "plain_table") (.ref 421) := Gl.own fun w => by kernel_rfl!
theorem gl_sorted_once : Gl (Str.ofString "sorted_once") (.ref 428) := Gl.own fun w => by kernel_rfl!
theorem gl_make_trans : Gl (Str.ofString "make_trans") (.ref 435) := Gl.own fun w => by kernel_rfl!
theorem gl_rank_outside : Gl (Str.ofString "rank_outside") (.ref 442) := Gl.own fun w => by kernel_rfl!
theorem gl_turned_code : Gl (Str.ofString "turned_code") (.ref 449) := Gl.own fun w => by kernel_rfl!
theorem gl_trans_code : Gl (Str.ofString "trans_code") (.ref 456) := Gl.own fun w => by kernel_rfl!
theorem gl_run_trans : Gl (Str.ofString "run_trans") (.ref 463) := Gl.own fun w => by kernel_rfl!
theorem gl_own_flags : Gl (Str.ofString "own_flags") (.ref 468) := Gl.own fun w => by kernel_rfl!
theorem gl_match_target : Gl (Str.ofString "match_target") (.ref 475) := Gl.own fun w => by kernel_rfl!
theorem gl_group_values : Gl (Str.ofString "group_values") (.ref 480) := Gl.own fun w => by kernel_rfl!
theorem gl_trans_scalar : Gl (Str.ofString "trans_scalar") (.ref 487) := Gl.own fun w => by kernel_rfl!
theorem gl_Counter : Gl (Str.ofString "Counter") (.ref 579) := Gl.own fun w => by kernel_rfl!
theorem gl_pos_of : Gl (Str.ofString "pos_of") (.ref 590) := Gl.own fun w => by kernel_rfl!
theorem gl_set_pos : Gl (Str.ofString "set_pos") (.ref 597) := Gl.own fun w => by kernel_rfl!
theorem gl_Run : Gl (Str.ofString "Run") (.ref 614) := Gl.own fun w => by kernel_rfl!
theorem gl_Limits : Gl (Str.ofString "Limits") (.ref 636) := Gl.own fun w => by kernel_rfl!
theorem gl__law_fall : Gl (Str.ofString "_law_fall") (.ref 647) := Gl.own fun w => by kernel_rfl!
theorem gl__law_list : Gl (Str.ofString "_law_list") (.ref 654) := Gl.own fun w => by kernel_rfl!
theorem gl__law_made : Gl (Str.ofString "_law_made") (.ref 659) := Gl.own fun w => by kernel_rfl!
theorem gl__law_turned : Gl (Str.ofString "_law_turned") (.ref 664) := Gl.own fun w => by kernel_rfl!
theorem gl__law_scalar : Gl (Str.ofString "_law_scalar") (.ref 669) := Gl.own fun w => by kernel_rfl!
theorem gl__law_trans_right : Gl (Str.ofString "_law_trans_right") (.ref 674) := Gl.own fun w => by kernel_rfl!
theorem gl__law_groups_right : Gl (Str.ofString "_law_groups_right") (.ref 679) := Gl.own fun w => by kernel_rfl!
theorem gl_PerlError : Gl (Str.ofString "PerlError") (.ref 38) := Gl.own fun w => by kernel_rfl!
theorem gl_FIGURES : Gl (Str.ofString "FIGURES") (.str (Str.ofString "0123456789") 596) := Gl.own fun w => by kernel_rfl!
theorem gl_CODE_FIGURES : Gl (Str.ofString "CODE_FIGURES") (.str (Str.ofString "0123456789abcdef") 656) := Gl.own fun w => by kernel_rfl!
theorem gl_TOP_CODE : Gl (Str.ofString "TOP_CODE") (.int 1114111 658) := Gl.own fun w => by kernel_rfl!
theorem gl_KEPT_SIGN : Gl (Str.ofString "KEPT_SIGN") (.int (-1) 713) := Gl.own fun w => by kernel_rfl!
theorem gl_DROPPED_SIGN : Gl (Str.ofString "DROPPED_SIGN") (.int (-2) 716) := Gl.own fun w => by kernel_rfl!
theorem gl__law_signs : Gl (Str.ofString "_law_signs") (.str (Str.ofString "aabbccdxyz-\n0123 ") 1145) := Gl.own fun w => by kernel_rfl!
theorem gl_len : Gl (Str.ofString "len") (.builtin "len") := Gl.boot (fun w => by kernel_rfl!) (by kernel_rfl!) (by decide)
theorem gl_chr : Gl (Str.ofString "chr") (.builtin "chr") := Gl.boot (fun w => by kernel_rfl!) (by kernel_rfl!) (by decide)
theorem gl_ord : Gl (Str.ofString "ord") (.builtin "ord") := Gl.boot (fun w => by kernel_rfl!) (by kernel_rfl!) (by decide)
theorem gl_range : Gl (Str.ofString "range") (.type "range") := Gl.boot (fun w => by kernel_rfl!) (by kernel_rfl!) (by decide)
theorem gl_min : Gl (Str.ofString "min") (.builtin "min") := Gl.boot (fun w => by kernel_rfl!) (by kernel_rfl!) (by decide)
theorem gl_sorted : Gl (Str.ofString "sorted") (.builtin "sorted") := Gl.boot (fun w => by kernel_rfl!) (by kernel_rfl!) (by decide)
theorem gl_isinstance : Gl (Str.ofString "isinstance") (.builtin "isinstance") := Gl.boot (fun w => by kernel_rfl!) (by kernel_rfl!) (by decide)
theorem gl_int : Gl (Str.ofString "int") (.type "int") := Gl.boot (fun w => by kernel_rfl!) (by kernel_rfl!) (by decide)
theorem gl_str : Gl (Str.ofString "str") (.type "str") := Gl.boot (fun w => by kernel_rfl!) (by kernel_rfl!) (by decide)
theorem gl_list : Gl (Str.ofString "list") (.type "list") := Gl.boot (fun w => by kernel_rfl!) (by kernel_rfl!) (by decide)
theorem gl_dict : Gl (Str.ofString "dict") (.type "dict") := Gl.boot (fun w => by kernel_rfl!) (by kernel_rfl!) (by decide)
theorem gl_abs : Gl (Str.ofString "abs") (.builtin "abs") := Gl.boot (fun w => by kernel_rfl!) (by kernel_rfl!) (by decide)
theorem gl_Exception : Gl (Str.ofString "Exception") (.type "Exception") := Gl.boot (fun w => by kernel_rfl!) (by kernel_rfl!) (by decide)

end

section
open PySem PySem.W PyProof.Rows
/-! ## the classes -/
noncomputable abbrev S (x : String) : Str := Str.ofString x
theorem cls117 : ClsOk 117 [S "number", S "value", S "magic"] [S "number", S "count", S "blessed", S "weak", S "is_destroyed", S "is_freed", S "value", S "magic"] := fun w => by kernel_rfl!
theorem cls276 : ClsOk 276 [S "last"] [S "limits", S "last", S "zero"] := fun w => by kernel_rfl!
theorem cls389 : ClsOk 389 [S "codes", S "is_turned", S "barred", S "becomes", S "is_deleting", S "is_squeezing"] [S "codes", S "is_turned", S "barred", S "becomes", S "is_deleting", S "is_squeezing"] := fun w => by kernel_rfl!
theorem cls579 : ClsOk 579 [S "places", S "empties"] [S "heap", S "destroy", S "places", S "empties"] := fun w => by kernel_rfl!
theorem cls614 : ClsOk 614 [S "heap", S "counter", S "limits"] [S "heap", S "counter", S "stash", S "limits", S "nodes", S "lvs", S "statements", S "funcs", S "operators", S "out", S "err", S "saves", S "frames", S "match", S "patterns", S "steps", S "methods", S "call_code", S "compile_text"] := fun w => by kernel_rfl!
theorem cls636 : ClsOk 636 [S "items"] [S "width", S "depth", S "steps", S "text", S "items"] := fun w => by kernel_rfl!
theorem own117 : OwnOk 117 := fun w => by kernel_rfl!
theorem isi_117_117 : Isi (.ref 117) (.ref 117) true := fun w => by kernel_rfl!
theorem isi_117_ah : IsiAny (.ref 117) [.ref 136, .ref 155] false := fun w => by kernel_rfl!
theorem isi_int_int : Isi (.type "int") (.type "int") true := fun w => by kernel_rfl!
theorem isi_str_int : Isi (.type "str") (.type "int") false := fun w => by kernel_rfl!
theorem isi_str_ref : Isi (.type "str") (.ref 213) false := fun w => by kernel_rfl!
theorem isi_int_ref : Isi (.type "int") (.ref 213) false := fun w => by kernel_rfl!
theorem isi_none_ref : Isi (.type "NoneType") (.ref 213) false := fun w => by kernel_rfl!
theorem uncons {n : Nat} {vs : List Value} (h : vs.length = n + 1) : ∃ a r, vs = a :: r ∧ r.length = n := by
  cases vs with
  | nil => cases h
  | cons a r => exact ⟨a, r, rfl, Nat.succ.inj h⟩
theorem len0 {P : List Value → Prop} (h : P []) (vs : List Value) (hl : vs.length = 0) : P vs := by
  rw [List.length_eq_zero_iff.mp hl]; exact h
theorem lenS {n : Nat} {P : List Value → Prop} (h : ∀ a r, r.length = n → P (a :: r)) (vs : List Value) (hl : vs.length = n + 1) : P vs := by
  obtain ⟨a, r, rfl, hr⟩ := uncons hl
  exact h a r hr
theorem len1 {P : List Value → Prop} (h : ∀ a, P [a]) : ∀ vs : List Value, vs.length = 1 → P vs :=
  lenS (P := fun r => P (r)) fun a => len0 (P := fun r => P (a :: r)) (h a)
theorem len2 {P : List Value → Prop} (h : ∀ a b, P [a, b]) : ∀ vs : List Value, vs.length = 2 → P vs :=
  lenS (P := fun r => P (r)) fun a => lenS (P := fun r => P (a :: r)) fun b => len0 (P := fun r => P (a :: b :: r)) (h a b)
theorem len3 {P : List Value → Prop} (h : ∀ a b c, P [a, b, c]) : ∀ vs : List Value, vs.length = 3 → P vs :=
  lenS (P := fun r => P (r)) fun a => lenS (P := fun r => P (a :: r)) fun b => lenS (P := fun r => P (a :: b :: r)) fun c => len0 (P := fun r => P (a :: b :: c :: r)) (h a b c)
theorem len4 {P : List Value → Prop} (h : ∀ a b c d, P [a, b, c, d]) : ∀ vs : List Value, vs.length = 4 → P vs :=
  lenS (P := fun r => P (r)) fun a => lenS (P := fun r => P (a :: r)) fun b => lenS (P := fun r => P (a :: b :: r)) fun c => lenS (P := fun r => P (a :: b :: c :: r)) fun d => len0 (P := fun r => P (a :: b :: c :: d :: r)) (h a b c d)
theorem len5 {P : List Value → Prop} (h : ∀ a b c d e, P [a, b, c, d, e]) : ∀ vs : List Value, vs.length = 5 → P vs :=
  lenS (P := fun r => P (r)) fun a => lenS (P := fun r => P (a :: r)) fun b => lenS (P := fun r => P (a :: b :: r)) fun c => lenS (P := fun r => P (a :: b :: c :: r)) fun d => lenS (P := fun r => P (a :: b :: c :: d :: r)) fun e => len0 (P := fun r => P (a :: b :: c :: d :: e :: r)) (h a b c d e)
theorem len7 {P : List Value → Prop} (h : ∀ a b c d e f g, P [a, b, c, d, e, f, g]) : ∀ vs : List Value, vs.length = 7 → P vs :=
  lenS (P := fun r => P (r)) fun a => lenS (P := fun r => P (a :: r)) fun b => lenS (P := fun r => P (a :: b :: r)) fun c => lenS (P := fun r => P (a :: b :: c :: r)) fun d => lenS (P := fun r => P (a :: b :: c :: d :: r)) fun e => lenS (P := fun r => P (a :: b :: c :: d :: e :: r)) fun f => lenS (P := fun r => P (a :: b :: c :: d :: e :: f :: r)) fun g => len0 (P := fun r => P (a :: b :: c :: d :: e :: f :: g :: r)) (h a b c d e f g)
theorem room_of {n m : Nat} (h : n = m) {k : Nat} (e : Nat.ble k m = true) : k ≤ n := h ▸ Nat.le_of_ble_eq_true e
theorem lst_get {xs : List Int} {i : Nat} (h : i < xs.length) : (xs.map AV.int)[i]? = some (.int (xs.getD i 0)) := by
  rw [List.getElem?_map, List.getElem?_eq_getElem h, List.getD_eq_getElem?_getD, List.getElem?_eq_getElem h]; rfl
theorem rng_get {lo : Int} {n i : Nat} {av : AV} (h : (rng lo n)[i]? = some av) : i < n ∧ av = .int (lo + (i : Nat)) := by
  unfold rng at h
  rw [List.getElem?_map] at h
  obtain ⟨j, e, rfl⟩ := Option.map_eq_some_iff.mp h
  obtain ⟨hj, e⟩ := List.getElem?_eq_some_iff.mp e
  rw [List.getElem_range] at e
  subst e
  exact ⟨by simpa using hj, rfl⟩
theorem rng_get0 {n i : Nat} {av : AV} (h : (rng 0 n)[i]? = some av) : i < n ∧ av = .int (i : Nat) := by
  obtain ⟨h1, h2⟩ := rng_get h
  rw [Int.zero_add] at h2
  exact ⟨h1, h2⟩
theorem rng_len (lo : Int) (n : Nat) : (rng lo n).length = n := by unfold rng; rw [List.length_map, List.length_range]
section
variable {sc : Scope} {a : Act sc} {loc : Loc} {led : Led} {s : Shared} {K : KV} {KU : KUn}
theorem get_at {x C d : Addr} {name : Str} {av : AV} {kvs : List (Str × AV)} {gets sets : List Str} {e : Bool} (O : a.Ok) (g : GetO x (.inst C d) led) (g' : GetO d (.attrs kvs) led) (c : ClsOk C gets sets) (hn : gets.contains name = true) (gk : GetK name av kvs) (k : K av loc led) :
    Op1 a (fun v => getAttr v name e) (.ref x) loc led K := get_attr O c hn g g' gk k
theorem set_at {x C d : Addr} {name : Str} {av : AV} {kvs kvs' : List (Str × AV)} {led' : Led} {gets sets : List Str} (O : a.Ok) (g : GetO x (.inst C d) led) (g' : GetO d (.attrs kvs) led) (p : PutK name av kvs kvs') (c : ClsOk C gets sets) (hn : sets.contains name = true) (hz : kvs.length ≤ 900)
    (g2 : SetO d (.attrs kvs') led led') (k : KU loc led') : SetAt a name (.ref x) av loc led KU := set_attr_at O c hn g g' hz p g2 k
theorem set_new {x C d : Addr} {name : Str} {av : AV} {kvs kvs' : List (Str × AV)} {led' : Led} {gets sets : List Str} (O : a.Ok) (g : GetO x (.inst C d) led) (g' : GetO d (.attrs kvs) led) (p : (kvs.map (·.1)).contains name = false) (e : kvs ++ [(name, av)] = kvs') (c : ClsOk C gets sets) (hn : sets.contains name = true) (hz : kvs.length ≤ 900)
    (g2 : SetO d (.attrs kvs') led led') (k : KU loc led') : SetAt a name (.ref x) av loc led KU := set_attr_new O c hn g g' hz p e g2 k
theorem sub_nat {value slice : Expr} {d : Addr} {i : Nat} {xs : List Int} (g : GetO d (.list (xs.map .int)) led) (hz : xs.length < 1000000) (hi : i < xs.length)
    (hs : ∀ t, subscripted slice false (.ref d) (.int i t) = operate [.ref d, .int i t] (getItem (.ref d) (.int i t))) (k : K (.int (xs.getD i 0)) loc led) : Op2 a (subscriptTail value slice) (.ref d) (.int (i : Nat)) loc led K :=
  sub_list g (Int.natCast_nonneg _) (by omega) (by rw [Int.toNat_natCast]; exact lst_get hi) hs k
theorem len_lst {d : Addr} {xs : List Int} (g : GetO d (.list (xs.map .int)) led) (hz : xs.length < 1000000) (k : K (.int (xs.length : Nat)) loc led) : OpL a (fun vs => call (.builtin "len") vs) [.ref d] loc led K :=
  len_list g (by rw [List.length_map]; omega) (by rw [List.length_map]; exact k)
theorem ForA.mk {tg : Expr} {body : List Stmt} {KS : KSt} {v : AV} (its : List AV) (hid led1 : Led) (J : Nat → Loc → Led → Prop) (h1 : PickO led hid led1) (h2 : IterOf a v its hid loc led1) (h3 : Has led1 (J 0 loc))
    (h4 : ∀ h i av loc led, (a.loop h).Ok → (∀ X, RaiseOk a X → RaiseOk (a.loop h) X) → its[i]? = some av → J i loc led → Asn (a.loop h) tg av loc led fun loc led => Ex (a.loop h) (execs body (a.loop h).env) loc led (cTurn (J (i + 1)) (cFin hid KS)))
    (h5 : ∀ loc led, J its.length loc led → Appd hid led (KS .next loc)) : ForA a tg body KS v loc led := ⟨its, hid, led1, true, J, h1, h2, h3, h4, h5⟩
theorem CompA.mk {scope : Scope} {tg elt : Expr} {ifs : List Expr} {ad : Str → Addr} {xs : List Str} {KK : List AV → Loc → Led → Prop} {v : AV} (its : List AV) (hid led1 : Led) (J : Nat → List AV → Led → Prop) (h1 : PickO led hid led1) (hz : its.length ≤ 1000000) (h2 : IterOf a v its hid loc led1) (h3 : Has led1 (J 0 []))
    (h4 : ∀ (c : Act (relabS scope sc)) i av acc led, c.Ok → c.room = a.room → c.hd = a.hd → (∀ x ∈ (scope.names.filter (·.2 == .free)).map (·.1), c.cl.lookup x = some (ad x)) → its[i]? = some av → J i acc led →
      Asn c tg av (emptyLoc xs) led fun cloc led => CT c ifs cloc led fun ok cloc led => Two ok (Ev c (eval elt c.env) cloc led fun y _ led => Has led (J (i + 1) (acc ++ [y]))) (Has led (J (i + 1) acc)))
    (h5 : ∀ acc led, J its.length acc led → Appd hid led (KK acc loc)) : CompA a scope tg elt ifs ad xs KK v loc led := ⟨its, hid, led1, true, J, h1, hz, h2, h3, h4, h5⟩
inductive JX {α : Type} (P : Nat → α → Prop) (lf : α → Loc) (df : α → Led) (i : Nat) (loc : Loc) (led : Led) : Prop
  | intro (x : α) (p : P i x) (hl : loc = lf x) (hd : led = df x)
theorem ForA.mkX {α : Type} {tg : Expr} {body : List Stmt} {KS : KSt} {v : AV} (its : List AV) (hid led1 : Led) {rest : Led} (P : Nat → α → Prop) (lf : α → Loc) (df : α → Led) (x0 : α) (h1 : PickO led hid led1) (h2 : IterOf a v its hid loc led1) (hl : loc = lf x0) (h3 : PickO led1 (df x0) rest) (hp : P 0 x0)
    (h4 : ∀ h i av x, (a.loop h).Ok → (∀ X, RaiseOk a X → RaiseOk (a.loop h) X) → its[i]? = some av → P i x → Asn (a.loop h) tg av (lf x) (df x) fun loc led => Ex (a.loop h) (execs body (a.loop h).env) loc led (cTurn (JX P lf df (i + 1)) (cFin hid KS)))
    (h5 : ∀ x, P its.length x → Appd hid (df x) (KS .next (lf x))) : ForA a tg body KS v loc led :=
  ForA.mk its hid led1 (JX P lf df) h1 h2 (Has.mk h3 ⟨x0, hp, hl, rfl⟩) (fun h i av loc led o z e j => by obtain ⟨x, p, rfl, rfl⟩ := j; exact h4 h i av x o z e p) fun loc led j => by obtain ⟨x, p, rfl, rfl⟩ := j; exact h5 x p
theorem CompA.mke {scope : Scope} {tg elt : Expr} {ifs : List Expr} {ad : Str → Addr} {xs : List Str} {KK : List AV → Loc → Led → Prop} {v : AV} (its : List AV) (hid led1 L : Led) {rest : Led} (A : Nat → List AV) (h1 : PickO led hid led1) (hz : its.length ≤ 1000000) (h2 : IterOf a v its hid loc led1) (h3 : PickO led1 L rest) (h0 : A 0 = [])
    (h4 : ∀ (c : Act (relabS scope sc)) i av, c.Ok → c.room = a.room → c.hd = a.hd → (∀ x ∈ (scope.names.filter (·.2 == .free)).map (·.1), c.cl.lookup x = some (ad x)) → its[i]? = some av →
      Asn c tg av (emptyLoc xs) L fun cloc led => CT c ifs cloc led fun ok cloc led => Two ok (Ev c (eval elt c.env) cloc led fun y _ led => Has led fun l => A i ++ [y] = A (i + 1) ∧ l = L) (Has led fun l => A i = A (i + 1) ∧ l = L))
    (h5 : Appd hid L (KK (A its.length) loc)) : CompA a scope tg elt ifs ad xs KK v loc led :=
  CompA.mk its hid led1 (fun i acc led => acc = A i ∧ led = L) h1 hz h2 (Has.mk h3 ⟨h0.symm, rfl⟩) (fun c i av acc led c1 c2 c3 c4 c5 h => by obtain ⟨rfl, rfl⟩ := h; exact h4 c i av c1 c2 c3 c4 c5) fun acc led h => by obtain ⟨rfl, rfl⟩ := h; exact h5
theorem iter_upto {r : Addr} {n : Nat} (O : a.Ok) (H : a.hd = true) (hn : n < 1000000) : IterOf a (.ref r) (rng 0 n) [(r, .range 0 n)] loc led := by
  have := iter_range (loc := loc) (led := led) (r := r) (lo := 0) (hi := (n : Int)) O H (by omega) (by omega) (by omega) (by omega)
  have e : ((n : Int) - 0).toNat = n := by omega
  rw [e] at this
  exact this
theorem sub_last {value slice : Expr} {d : Addr} {xs : List Int} (g : GetO d (.list (xs.map .int)) led) (hz : xs.length < 1000000) (hne : xs ≠ [])
    (hs : ∀ t, subscripted slice false (.ref d) (.int ((xs.length : Int) - 1) t) = operate [.ref d, .int ((xs.length : Int) - 1) t] (getItem (.ref d) (.int ((xs.length : Int) - 1) t))) (k : K (.int (xs.getLastD 0)) loc led) : Op2 a (subscriptTail value slice) (.ref d) (.int ((xs.length : Int) - 1)) loc led K := by
  have hp := List.length_pos_iff.mpr hne
  refine sub_list g (pred_pos hp) (pred_lt hz) ?_ hs k
  have h1 : ((xs.length : Int) - 1).toNat = xs.length - 1 := pred_toNat hp
  have h2 : xs[xs.length - 1]? = some (xs.getLastD 0) := by
    rw [← List.getLast?_eq_getElem?]
    cases xs with
    | nil => exact absurd rfl hne
    | cons x xs => rw [List.getLast?_cons, List.getLastD_cons, List.getLastD_eq_getLast?]
  rw [h1, List.getElem?_map, h2]; rfl
end
/-! ## a new attribute, behind the others -/
inductive SnocK {K : Type} (p : K × AV) : List (K × AV) → List (K × AV) → Prop
  | nil : SnocK p [] [p]
  | cons {q r r'} : SnocK p r r' → SnocK p (q :: r) (q :: r')
theorem SnocK.eq {K : Type} {p : K × AV} {l l' : List (K × AV)} (h : SnocK p l l') : l ++ [p] = l' := by
  induction h with
  | nil => rfl
  | cons _ ih => rw [List.cons_append, ih]
section
variable {sc : Scope} {a : Act sc} {loc : Loc} {led : Led} {KU : KUn}
theorem set_snoc {x C d : Addr} {name : Str} {av : AV} {kvs kvs' : List (Str × AV)} {led' : Led} {gets sets : List Str} (O : a.Ok) (g : GetO x (.inst C d) led) (g' : GetO d (.attrs kvs) led) (e : SnocK (name, av) kvs kvs') (c : ClsOk C gets sets) (p : (kvs.map (·.1)).contains name = false) (hn : sets.contains name = true) (hz : kvs.length ≤ 900)
    (g2 : SetO d (.attrs kvs') led led') (k : KU loc led') : SetAt a name (.ref x) av loc led KU := set_attr_new O c hn g g' hz p e.eq g2 k
end
/-- a Scalar -/
noncomputable abbrev scal (x d wk : Addr) (num : Int) (val : AV) : Led := [(x, .inst 117 d), (d, .attrs [(S "number", .int num), (S "count", .int 0), (S "blessed", .none), (S "weak", .ref wk), (S "is_destroyed", .bool false), (S "is_freed", .bool false), (S "value", val), (S "magic", .none)])]

end

section
open PySem PySem.W PyProof.Rows PySem.Spec
/-! ## the short escapes -/
noncomputable def shortE : List (Str × Str) := [(S "n", S "\n"), (S "t", S "\t"), (S "r", S "\r"), (S "f", ⟨#[12]⟩), (S "b", ⟨#[8]⟩), (S "a", ⟨#[7]⟩), (S "e", ⟨#[27]⟩)]
theorem short_tab {w : World} {h : Heap} (x : (KF w.params).In h) : StrTab PW w h 337 ((shortE.map fun p => (p.1, PyData.str p.2)).map fun p => (PyData.str p.1, p.2)) :=
  kt_tab_in PW w x (by kernel_rfl!) (by decide +kernel) (by kernel_rfl!)
theorem flat_at {kvs : List (Str × Value)} : ∀ {D : List (Str × Str)}, PyProof.V.FlatPairs PyData.str kvs ((D.map fun p => (p.1, PyData.str p.2)).map fun p => (PyData.str p.1, p.2)) → ∀ x, (D.lookup x = none → valueAt kvs x = none) ∧ ∀ y, D.lookup x = some y → ∃ t, valueAt kvs x = some (.str y t) := by
  intro D
  induction D generalizing kvs with
  | nil => intro p x; cases p; exact ⟨(fun _ => rfl), (fun y e => by cases e)⟩
  | cons q r ih =>
    intro p x
    rw [List.map_cons, List.map_cons] at p
    cases p with
    | cons hf hp =>
      obtain ⟨i1, i2⟩ := ih hp x
      rw [List.lookup_cons]
      unfold valueAt
      rw [List.find?_cons]
      by_cases hx : x = q.1
      · subst hx
        simp only [beq_self_eq_true, decide_true]
        refine ⟨(fun e => by cases e), fun y e => ?_⟩
        cases e
        obtain ⟨t, rfl⟩ := PyProof.V.Flat.str_inv hf
        exact ⟨t, rfl⟩
      · rw [beq_eq_false_iff_ne.mpr hx, decide_eq_false (fun q : _ = x => hx q.symm)]
        exact ⟨i1, i2⟩
section
variable {sc : Scope} {a : Act sc} {loc : Loc} {led : Led} {s : Shared} {K : KV}
theorem short_in {x : Str} (O : a.Ok) (k : K (.bool (shortE.lookup x).isSome) loc led) : Op2 a (compareOp .In) (.str x) (.ref 337) loc led K := by
  rintro s v u R ⟨t, rfl⟩ rfl
  obtain ⟨lo, kvs, hd, hf⟩ := short_tab (O.glob.2.keeps R.keep)
  refine wpAny_in_of (strKind_is PW a.w x t) lo hd.mapOf ?_
  have : (valueAt kvs x).isSome = (shortE.lookup x).isSome := by
    cases hl : shortE.lookup x with
    | none => rw [(flat_at hf x).1 hl]; rfl
    | some y => obtain ⟨t, e⟩ := (flat_at hf x).2 y hl; rw [e]; rfl
  rw [this]
  exact .toks k R rfl _
theorem short_sub {value slice : Expr} {x y : Str} (O : a.Ok) (hy : shortE.lookup x = some y) (hs : ∀ t, subscripted slice false (.ref 337) (.str x t) = operate [.ref 337, .str x t] (getItem (.ref 337) (.str x t))) (k : K (.str y) loc led) : Op2 a (subscriptTail value slice) (.ref 337) (.str x) loc led K := by
  rintro s v u R rfl ⟨t, rfl⟩
  obtain ⟨lo, kvs, hd, hf⟩ := short_tab (O.glob.2.keeps R.keep)
  obtain ⟨t', e⟩ := (flat_at hf x).2 y hy
  have hm := hd.mapOf
  exact tail_any hm.typeIs slot_dict_getitem.lookup (wpAny_getItem_of (strKind_is PW a.w x t) hm e (.toks k R ⟨_, rfl⟩ _)) (hs t)
theorem sub_sn {value slice : Expr} {x : Str} {i : Nat} {c : Nat} (hz : x.length < 1000000) (hc : x.cps.toList[i]? = some c)
    (hs : ∀ t t', subscripted slice false (.str x t) (.int (i : Int) t') = operate [.str x t, .int (i : Int) t'] (getItem (.str x t) (.int (i : Int) t'))) (hg : ∀ t r, letTemporaryGo value (.str x t) r = pure ())
    (k : K (.str ⟨#[c]⟩) loc led) : Op2 a (subscriptTail value slice) (.str x) (.int (i : Int)) loc led K := by
  have hlt := (List.getElem?_eq_some_iff.mp hc).1
  have e : x.cps.toList.length = x.length := by simp [Str.length]
  exact sub_s (Int.natCast_nonneg _) (by omega) (by rw [Int.toNat_natCast]; exact hc) hs hg k
end
section
variable {sc : Scope} {a : Act sc} {loc : Loc} {led : Led} {KU : KUn}
theorem asn_2 {x y : Str} {p q : Pos} {k : Nat} {pos : Pos} {u v : AV} (O : a.Ok) (H : a.hd = true) (h : Stored x u loc fun loc => Stored y v loc fun loc => KU loc led) : Asn a (.Tuple [.Name x p, .Name y q] k pos) (.tup [u, v]) loc led KU :=
  let ⟨_, g, _, g2, h⟩ := h; asn_tuple O H rfl rfl (asnL_assign O g (asnL_assign O g2 (asnL_nil h)))
theorem asn_4 {x y z t : Str} {p q r s : Pos} {k : Nat} {pos : Pos} {u v w m : AV} (O : a.Ok) (H : a.hd = true) (h : Stored x u loc fun loc => Stored y v loc fun loc => Stored z w loc fun loc => Stored t m loc fun loc => KU loc led) : Asn a (.Tuple [.Name x p, .Name y q, .Name z r, .Name t s] k pos) (.tup [u, v, w, m]) loc led KU :=
  let ⟨_, g, _, g2, _, g3, _, g4, h⟩ := h; asn_tuple O H rfl rfl (asnL_assign O g (asnL_assign O g2 (asnL_assign O g3 (asnL_assign O g4 (asnL_nil h)))))
theorem asn_3 {x y z : Str} {p q r : Pos} {k : Nat} {pos : Pos} {u v w : AV} (O : a.Ok) (H : a.hd = true) (h : Stored x u loc fun loc => Stored y v loc fun loc => Stored z w loc fun loc => KU loc led) : Asn a (.Tuple [.Name x p, .Name y q, .Name z r] k pos) (.tup [u, v, w]) loc led KU :=
  let ⟨_, g, _, g2, _, g3, h⟩ := h; asn_tuple O H rfl rfl (asnL_assign O g (asnL_assign O g2 (asnL_assign O g3 (asnL_nil h))))
end
theorem ex_int {i : Int} {P : Int → Prop} (h : P i) : ∃ j, AV.int i = .int j ∧ P j := ⟨i, rfl, h⟩
theorem ex_str {i : Str} {P : Str → Prop} (h : P i) : ∃ j, AV.str i = .str j ∧ P j := ⟨i, rfl, h⟩
theorem one_ne {c d : Nat} (h : c ≠ d) : ((⟨#[c]⟩ : Str) == ⟨#[d]⟩) = false := beq_eq_false_iff_ne.mpr fun e => h (by injection e with e; injection e with e; injection e with e)
/-! ## slices of texts -/
theorem slice_ab {x : Str} {i j : Nat} (h : i ≤ j) (hj : j ≤ x.length) : Txt.slice x (some (i : Int)) (some (j : Int)) = ⟨((x.cps.toList.drop i).take (j - i)).toArray⟩ := by
  unfold Txt.slice
  have hl : (Builtin.Str.strSliceIndices (some (i : Int)) (some (j : Int)) 1 x.length).length = j - i := by
    rw [StrLaws.strSliceIndices_plain h hj, List.length_map, List.length_range]
  rw [StrLaws.sliced_plain x h hj, hl]
  split
  · next e =>
    have e2 : j - i = x.length := by simpa using e
    have hi : i = 0 := by omega
    have hj2 : j = x.length := by omega
    subst hi hj2
    have : x.cps.toList.length = x.length := by simp [Str.length]
    rw [List.drop_zero, Nat.sub_zero, List.take_of_length_le (Nat.le_of_eq this)]
  · rfl
theorem slice_one {x : Str} {i c : Nat} (hc : x.cps.toList[i]? = some c) : Txt.slice x (some (i : Int)) (some ((i : Int) + 1)) = ⟨#[c]⟩ := by
  have hlt := (List.getElem?_eq_some_iff.mp hc).1
  have hl : x.cps.toList.length = x.length := by simp [Str.length]
  have := slice_ab (x := x) (i := i) (j := i + 1) (Nat.le_succ _) (by omega)
  rw [show ((i : Int) + 1) = ((i + 1 : Nat) : Int) from rfl, this]
  have e : (x.cps.toList.drop i).take (i + 1 - i) = [c] := by
    rw [List.drop_eq_getElem_cons hlt, show i + 1 - i = 1 by omega, List.take_succ_cons, List.take_zero]
    rw [(List.getElem?_eq_some_iff.mp hc).2]
  rw [e]
/-! ## the start of a def with cells -/
inductive InitL (z : List (Str × AV)) : Loc → Prop
  | nil : InitL z []
  | none {x r} : InitL z r → InitL z ((x, none) :: r)
  | some {x av r} : GetK x av z → InitL z r → InitL z ((x, some av) :: r)
theorem InitL.mem {z : List (Str × AV)} {l : Loc} (i : InitL z l) : ∀ x av, (x, Option.some av) ∈ l → (x, av) ∈ z := by
  induction i with
  | nil => intro x av h; cases h
  | none i ih =>
    intro x av h
    rcases List.mem_cons.mp h with e | h
    · cases e
    · exact ih x av h
  | some g i ih =>
    intro x av h
    rcases List.mem_cons.mp h with e | h
    · cases e; exact g.mem
    · exact ih x av h
theorem Ex_cells {sc : Scope} {a : Act sc} {loc : Loc} {l led l2 : Led} {t : Sem Flow} {KS : KSt} (p : AppO l led l2) (h : Ex a t loc l2 KS) : Ex a t loc (l ++ led) KS := by rw [p.eq]; exact h
/-- both arms end alike -/
theorem two_share {b : Bool} {P Q : Prop} (h1 : Q) (h2 : b = true → Q → P) : Two b P Q := ⟨fun e => h2 e h1, fun _ => h1⟩

end

section
open PySem PySem.W PyProof.Rows PySem.Calls
section
variable {sc : Scope} {a : Act sc} {loc : Loc} {led : Led} {s : Shared} {K : KV} {KU : KUn} {KL : KLi} {KS : KSt}
theorem set_esnoc {x d : Addr} {name : Str} {av : AV} {kvs kvs' : List (Str × AV)} {led' : Led} (O : a.Ok) (g : GetO x (.exc (some d)) led) (g' : GetO d (.attrs kvs) led) (e : SnocK (name, av) kvs kvs') (ht : ∀ w : World, (takerIn (KF w.params) 58 name == some none) = true) (p : (kvs.map (·.1)).contains name = false) (hz : kvs.length ≤ 900)
    (g2 : SetO d (.attrs kvs') led led') (k : KU loc led') : SetAt a name (.ref x) av loc led KU := by
  refine set_exc O ht g g' hz ?_ k
  rw [putA_new (by simpa using p), e.eq]; exact g2
end

end

section
open PySem PySem.W PyProof.Rows PySem.Calls
section
variable {prog : Program} {w : World} {A : Around} {E : Value → Shared → Prop} {s : Shared}
theorem ga_miss_list {a : Addr} {xs : Array Value} {k : Nat} {name : Str} {Q : Option Value → Shared → Prop}
    (hx : s.heap.get? a = some { cls := .type "list", dict := none, data := .seq xs k, slots := #[] }) (hmiss : typeLookup (.type "list") name = pure none) (hname : (["__module__", "__name__", "__qualname__", "__doc__", "__annotations__"] : List Str).contains name = false) (hA : A.handled = none)
    (h : ∀ h' tk, (∀ b o, s.heap.get? b = some o → h'.get? b = some o) → Q none { s with heap := h', toks := tk }) (hsz : name.length + 100 ≤ sizeLine := by size_fits) :
    wpAny (model prog w) A (getAttr? (.ref a) name) Q E s := by
  obtain ⟨hp, g, d, tk, os⟩ := s
  have hT : ∀ tk', (⟨hp, g, d, tk', os⟩ : Shared).TypeIs (.ref a) "list" := fun _ => ⟨_, hx, rfl⟩
  have f1 := sub_AttributeError
  have f3 := F.slot_list_getattribute.lookup
  have f4 := F.slot_list_getattribute.bind (.ref a)
  have f5 := am_list_getattr_none
  unfold getAttr? getAttrBy? getAttrBy
  repeat (any_goals (first | assumption | exact hT _ | ((with_reducible show wpAny _ _ (call (Value.builtin "list.__getattribute__") _ _) _ _ _); refine call_meets F.slot_list_getattribute (hT _) am_entry_list_getattribute (F.args_list_getattribute_2 _ _) (meets_getattribute_miss_list a xs k #[] name _ hmiss hname hsz) ⟨hx, hA, fun h' tk' e hx' => ?_⟩) | wp_step))
  obtain ⟨t', u', he⟩ := hx'.there
  show wpAny _ _ (getattributeRaised _ _ _ _ _ _ _) _ _ _
  unfold getattributeRaised
  repeat (any_goals (first | assumption | wp_step))
  exact h _ _ hx'.of.keeps
theorem entry_dul : entryFor table "dict.update.loop" = some Builtin.«dict.update.loop» := entryFor_of_tree (by kernel_rfl)
theorem plain_dul : plainId "dict.update.loop" = true := by decide +kernel
noncomputable def foldV (val : Nat → Int) (n : Nat) : List (Int × Value) := ((List.range n).map val).foldl (fun kvs n => stored kvs n (.bool true)) []
theorem foldV_succ (val : Nat → Int) (i : Nat) : foldV val (i + 1) = stored (foldV val i) (val i) (.bool true) := by
  unfold foldV; rw [List.range_succ, List.map_append, List.foldl_append]; rfl
theorem stored_len {K : Type} [DecidableEq K] (l : List (K × Value)) (k : K) (v : Value) : (stored l k v).length ≤ l.length + 1 := by
  unfold stored
  split
  · rw [List.length_map]; exact Nat.le_succ _
  · rw [List.length_append]; exact Nat.le_refl _
theorem foldV_len (val : Nat → Int) : ∀ i, (foldV val i).length ≤ i
  | 0 => Nat.le_refl _
  | i + 1 => by rw [foldV_succ]; exact Nat.le_trans (stored_len _ _ _) (Nat.succ_le_succ (foldV_len val i))
/-- the items of the walk are pairs (number, True) -/
noncomputable def PairsIn (h : Heap) (wr : List Addr) (val : Nat → Int) (P : Nat → Value → Prop) : Prop :=
  ∀ i v, P i v → ∃ t u o nn, v = .ref t ∧ h.get? t = some o ∧ o.cls = .type "tuple" ∧ o.data = .seq #[.int (val i) u, .bool true] nn ∧ t ∉ wr
theorem PairsIn.keep {h h' : Heap} {wr : List Addr} {val : Nat → Int} {P : Nat → Value → Prop} (x : PairsIn h wr val P) (k : ∀ b o, b ∉ wr → h.get? b = some o → h'.get? b = some o) : PairsIn h' wr val P :=
  fun i v p => (x i v p).imp fun t h => h.imp fun u h => h.imp fun o h => h.imp fun nn h => ⟨h.1, k t o h.2.2.2.2 h.2.1, h.2.2⟩
theorem dul_code {R : Result → Shared → Prop} {I : Addr} {fp wr : List Addr} {G : Array GenState → Array GenState → Prop} {n : Nat} {P : Nat → Value → Prop} {St : Nat → Shared → Prop}
    (W : WalksS prog w A.in1 I fp wr G n P St) (S : Addr) (hSf : S ∉ fp) (val : Nat → Int) (hb : n ≤ 100000) :
    ∀ (k i : Nat) (s : Shared), n - i = k → i ≤ n → St i s → PairsIn s.heap (S :: wr) val P → s.heap.DictOf (intKind prog w) S (foldV val i) →
      (∀ s', Moved (S :: wr) G s s' → s'.heap.DictOf (intKind prog w) S (foldV val n) → R (.ok (.ret .none)) s') →
      codeAny (model prog w) A (.builtin "dict.update.loop" ⟨[.ref S, .ref I, rawInt (i : Nat), .none], []⟩) R s := by
  have hSw : S ∉ wr := fun h => hSf (W.sub _ h)
  have hsub : ∀ b ∈ wr, b ∈ S :: wr := fun b hb => List.mem_cons_of_mem _ hb
  intro k
  induction k with
  | zero =>
    intro i s hk hi hst hP hS hR
    have hin : i = n := by omega
    subst hin
    refine codeAny_builtin entry_dul ?_
    rw [Around.under_plainId plain_dul _]
    show wpAny _ A.in1 (pyNext (.ref I) >>= _) _ _ s
    refine wpAny_bind (W.done s _ _ hst fun s' hm => ?_)
    show wpAny _ A.in1 (Builtin.Dict.addKeywords S [] >>= _) _ _ s'
    refine wpAny_bind (wpAny_pure (wpAny_pure (hR s' (hm.mono hsub) ?_)))
    obtain ⟨o, es, ep, ho, rest⟩ := hS
    exact ⟨o, es, ep, hm.heap S _ hSw ho, rest⟩
  | succ k ih =>
    intro i s hk hi hst hP hS hR
    have hlt : i < n := by omega
    refine codeAny_builtin entry_dul ?_
    rw [Around.under_plainId plain_dul _]
    show wpAny _ A.in1 (pyNext (.ref I) >>= _) _ _ s
    refine wpAny_bind (W.item i s _ _ hlt hst fun v s' hv hst' hm => ?_)
    have hP' := hP.keep fun b o hb e => hm.heap b o (fun q => hb (hsub _ q)) e
    obtain ⟨t, u, o, nn, rfl, ho, hc, hd, hn⟩ := hP' i v hv
    have hS' : s'.heap.DictOf (intKind prog w) S (foldV val i) := by
      obtain ⟨o, es, ep, ho, rest⟩ := hS
      exact ⟨o, es, ep, hm.heap S _ hSw ho, rest⟩
    show wpAny _ A.in1 (holding [Value.ref t] _ >>= _) _ _ s'
    refine wpAny_bind (wpAny_holding ?_)
    refine wpAny_bind (wpAny_tryCatch ?_)
    unfold Builtin.Dict.pairItems
    refine wpAny_bind (wpAny_typeOf ⟨o, ho, hc⟩ ?_)
    rw [if_pos (by decide)]
    refine wpAny_bind (wpAny_seqItems ho hd (wpAny_pure ?_))
    show wpAny _ A.in1 (holding [Value.int (val i) u, .bool true] (dictSet S (.int (val i) u) (.bool true))) _ _ s'
    refine wpAny_holding (wpAny_dictSet_pairs (intKind_is prog w (val i) u) hS' (fun h' hd' hs => ?_) (Nat.le_trans (foldV_len val i) (Nat.le_trans hi (Nat.le_trans hb (by decide)))))
    refine wpAny_pure ⟨plainId_quiet plain_dul _, ?_⟩
    refine ih (i + 1) _ (by omega) hlt (W.frame _ s' _ _ hst' (Nat.le_succ _) fun b hb o e => ?_) (hP'.keep fun b o hb e => ?_) (by rw [foldV_succ]; exact hd') fun s'' hm'' hS'' => ?_
    · rw [hs.2 b (fun h : b = S => hSf (by rw [← h]; exact hb))]; exact e
    · show h'.get? b = _
      rw [hs.2 b (fun h : b = S => hb (by rw [h]; exact List.mem_cons_self))]; exact e
    · refine hR s'' (Moved.trans W.gtrans ((hm.mono hsub).then_heap (Nat.le_succ _) fun b o hb e => ?_) hm'') hS''
      rw [hs.2 b (fun h : b = S => hb (by rw [h]; exact List.mem_cons_self))]; exact e
theorem call_dict_pairs {l : Addr} {items : Array Value} {nn : Nat} {val : Nat → Int} {Q : Value → Shared → Prop} (hh : A.handled = none) (hl : s.heap.get? l = some { cls := .type "list", dict := none, data := .seq items nn, slots := #[] })
    (hT : PairsIn s.heap [] val (fun i v => items[i]? = some v)) (hb : items.size ≤ 100000)
    (h : ∀ h' tk, h'.DictOf (intKind prog w) s.heap.objs.size (foldV val items.size) → (∀ b o, s.heap.get? b = some o → h'.get? b = some o) → Q (.ref s.heap.objs.size) { s with heap := h', toks := tk }) :
    wpAny (model prog w) A (call (.type "dict") [.ref l]) Q E s := by
  refine callType_codes (Q₁ := fun obj s₁ => obj = .ref s.heap.objs.size ∧ s₁ = { s with heap := s.heap.push { cls := .type "dict", data := .dict #[] } }) F.kt_called_dict (F.kt_typeCall_dict_1 _) F.entry_dict_init (kt_code_dict_new _ ⟨rfl, rfl⟩) ?_
  rintro obj s₁ ⟨rfl, rfl⟩
  have hnew : (s.heap.push { cls := .type "dict", data := .dict #[] }).DictOf (intKind prog w) s.heap.objs.size [] := Heap.DictOf.new s.heap
  refine ⟨hnew.typeIs, F.args_dict_init_2 _ _, ?_⟩
  have hl1 : (s.heap.push { cls := .type "dict", data := .dict #[] }).get? l = _ := Heap.get?_push_of_some _ hl
  have hlt : l < s.heap.objs.size := Heap.lt_size hl
  unfold Builtin.«dict.__init__»
  refine wpAny_bind ?_
  unfold Builtin.Dict.selfAndRest
  refine wpAny_bind (wpAny_notOrdered_dict hnew.typeIs ?_)
  show wpAny _ _ (pure (s.heap.objs.size, [Value.ref l])) _ _ _
  refine wpAny_pure ?_
  show wpAny _ _ (Builtin.Dict.updateFrom "dict.__init__" s.heap.objs.size (.ref l) [] .none) _ _ _
  unfold Builtin.Dict.updateFrom
  refine wpAny_bind (wpAny_typeOf ⟨_, hl1, rfl⟩ ?_)
  rw [if_pos (by decide)]
  refine wpAny_bind (ga_miss_list hl1 (am_miss_of_fast (by decide +kernel)) (by decide +kernel) hh (fun h1 tk hk => ?_) (by decide))
  have hl2 : ({ s with heap := h1, toks := tk } : Shared).heap.IsList l items := ⟨_, hk _ _ hl1, rfl, nn, rfl⟩
  have hd2 : h1.DictOf (intKind prog w) s.heap.objs.size [] := by
    obtain ⟨o, es, ep, ho, rest⟩ := hnew
    exact ⟨o, es, ep, hk _ _ ho, rest⟩
  have hs1 : s.heap.objs.size < h1.objs.size := by
    obtain ⟨o, es, ep, ho, rest⟩ := hd2
    exact Heap.lt_size ho
  rw [if_pos (by rfl)]
  refine wpAny_bind (wpAny_rule ?_)
  refine wpAny_bind (wpAny_pyIter_list (s := { s with heap := h1, toks := tk }) hl2 ?_)
  have hne : l ≠ h1.objs.size := Nat.ne_of_lt (Nat.lt_trans hlt hs1)
  have hit : (h1.push { cls := .type "list_iterator", data := .fields #[.ref l, .int 0 0] }).IsListIter h1.objs.size l 0 := ⟨_, Heap.get?_push_size _ rfl, rfl, rfl⟩
  have hSf : s.heap.objs.size ∉ [h1.objs.size, l] := by
    simp only [List.mem_cons, List.not_mem_nil, or_false, not_or]
    exact ⟨Nat.ne_of_lt hs1, Nat.ne_of_gt hlt⟩
  refine wpAny_pure ⟨plainId_quiet plain_dul _, ?_⟩
  refine dul_code ((Walks.list (A := A.in1.in1) hh h1.objs.size l hne items).toS) s.heap.objs.size hSf val hb (items.size - 0) 0 _ (by omega) (Nat.zero_le _) ⟨hit, hl2.push _⟩ (fun i v hv => ?_) ?_ fun s' hm hS => ?_
  · obtain ⟨t, u, o, nn, rfl, ho, hc, hd, _⟩ := hT i v hv
    have := Heap.lt_size ho
    refine ⟨t, u, o, nn, rfl, Heap.get?_push_of_some _ (hk _ _ (Heap.get?_push_of_some _ ho)), hc, hd, ?_⟩
    simp only [List.mem_cons, List.not_mem_nil, or_false, not_or]
    exact ⟨Nat.ne_of_lt this, Nat.ne_of_lt (Nat.lt_trans this hs1)⟩
  · obtain ⟨o, es, ep, ho, rest⟩ := hd2
    exact ⟨o, es, ep, Heap.get?_push_of_some _ ho, rest⟩
  · obtain ⟨h', g', d', tk', os'⟩ := s'
    have eg : g' = s.gens := hm.gens
    have ed : d' = s.drawn := hm.drawn
    have eo : os' = s.os := hm.os
    subst eg; subst ed; subst eo
    refine ⟨rfl, h h' tk' hS fun b o e => ?_⟩
    have hb := Heap.lt_size e
    refine hm.heap b o ?_ (Heap.get?_push_of_some _ (hk _ _ (Heap.get?_push_of_some _ e)))
    simp only [List.mem_cons, List.not_mem_nil, or_false, not_or]
    exact ⟨Nat.ne_of_lt hb, Nat.ne_of_lt (Nat.lt_trans hb hs1)⟩
end
noncomputable def dictL (ns : List Int) : List (Int × AV) := ns.foldl (fun kvs n => storedA kvs n (.bool true)) []
theorem dictL_rel {h : Heap} (ns : List Int) : ∀ {xs : List (Int × AV)} {vs : List (Int × Value)}, RelK h xs vs → RelK h (ns.foldl (fun kvs n => storedA kvs n (.bool true)) xs) (ns.foldl (fun kvs n => stored kvs n (.bool true)) vs) := by
  induction ns with
  | nil => intro xs vs e; exact e
  | cons n ns ih => intro xs vs e; exact ih (e.stored (show Rel h (.bool true) (.bool true) from rfl))
theorem getD_map (ns : List Int) : (List.range ns.length).map (fun i => ns.getD i 0) = ns := by
  apply List.ext_getElem
  · simp
  · intro i h1 h2; simp at h1 ⊢; simp [h1]
section
variable {sc : Scope} {a : Act sc} {loc : Loc} {led : Led} {K : KV}
theorem eq_in {i : Int} (k : K (.bool false) loc led) : Op2 a (compareOp .Eq) (.int i) .none loc led K := by
  rintro s v u R ⟨t, rfl⟩ rfl
  exact EqBoolInt.of_rc (SeqAt.RcAt.int_none i t) (.here k R rfl)
theorem dict_pairs {d : Addr} {ns : List Int} (O : a.Ok) (H : a.hd = true) (g : GetO d (.list (ns.map fun n => .tup [.int n, .bool true])) led) (hz : ns.length ≤ 100000) (k : ∀ r, K (.ref r) loc ((r, .dI (dictL ns)) :: led)) :
    OpL a (fun vs => call (.type "dict") vs) [.ref d] loc led K := by
  intro s vs R rr
  obtain ⟨v, rfl, rfl⟩ := rr.one
  obtain ⟨ws, nn, hl, hr⟩ := R.objs _ g.mem
  have hlen := hr.length
  rw [List.length_map] at hlen
  refine call_dict_pairs (val := fun i => ns.getD i 0) (O.room.1 H) hl (fun i v hv => ?_) (by rw [List.size_toArray, hlen]; exact hz) fun h' tk hd hk => ?_
  · have hv : ws[i]? = some v := by simpa using hv
    have hi : i < ns.length := by rw [← hlen]; exact (List.getElem?_eq_some_iff.mp hv).1
    obtain ⟨v', e, rv⟩ := hr.get (i := i) (x := .tup [.int (ns.getD i 0), .bool true]) (by rw [List.getElem?_map, List.getElem?_eq_getElem hi]; simp [hi])
    rw [hv] at e; cases e
    obtain ⟨t, us, rfl, ⟨o, ho, hc, nn, hd⟩, ru⟩ := rv
    obtain ⟨x, y, rfl, ⟨u, rfl⟩, rfl⟩ := ru.two
    exact ⟨t, u, o, nn, rfl, ho, hc, hd, fun h => nomatch h⟩
  · have R' := R.grow hk tk s.drawn
    rw [show ws.toArray.size = ns.length from by rw [List.size_toArray, hlen]] at hd
    refine ⟨_, loc, _, k s.heap.objs.size, R.new R' (fresh_get _) ⟨_, hd, ?_⟩ (size_mg O R), TK.keeps hk, rfl⟩
    have := dictL_rel (h := h') ns (xs := []) (vs := []) rfl
    unfold foldV
    rw [getD_map]
    exact this
end
/-- the keys of the dict: the numbers once each, in the order of their first place -/
noncomputable def keysL (ns : List Int) : List Int := (dictL ns).map (·.1)
theorem storedA_keys (kvs : List (Int × AV)) (n : Int) (x : AV) : (storedA kvs n x).map (·.1) = if n ∈ kvs.map (·.1) then kvs.map (·.1) else kvs.map (·.1) ++ [n] := by
  unfold storedA
  by_cases h : n ∈ kvs.map (·.1)
  · rw [if_pos h, if_pos (by obtain ⟨p, hp, e⟩ := List.mem_map.mp h; exact List.any_eq_true.mpr ⟨p, hp, by simpa using e⟩), List.map_map]
    refine List.map_congr_left fun p _ => ?_
    show (if p.1 = n then _ else _ : Int × AV).1 = _
    split <;> rfl
  · rw [if_neg h, if_neg (fun q => h (by obtain ⟨p, hp, e⟩ := List.any_eq_true.mp q; exact List.mem_map.mpr ⟨p, hp, by simpa using e⟩)), List.map_append]; rfl
theorem keys_fold (ns : List Int) : ∀ (kvs : List (Int × AV)), (kvs.map (·.1)).Nodup → ((ns.foldl (fun kvs n => storedA kvs n (.bool true)) kvs).map (·.1)).Nodup ∧ ∀ k, k ∈ (ns.foldl (fun kvs n => storedA kvs n (.bool true)) kvs).map (·.1) ↔ k ∈ kvs.map (·.1) ∨ k ∈ ns := by
  induction ns with
  | nil => intro kvs h; exact ⟨h, fun k => by simp⟩
  | cons n ns ih =>
    intro kvs h
    have e := storedA_keys kvs n (.bool true)
    obtain ⟨h1, h2⟩ := ih (storedA kvs n (.bool true)) (by
      rw [e]; split
      · exact h
      · rename_i q; rw [List.nodup_append]; exact ⟨h, by simp, fun a ha b hb => by rw [List.mem_singleton.mp hb]; exact fun q' => q (q' ▸ ha)⟩)
    refine ⟨h1, fun k => ?_⟩
    rw [List.foldl_cons, h2, e, List.mem_cons]
    split
    · rename_i q
      constructor
      · rintro (h | h)
        · exact .inl h
        · exact .inr (.inr h)
      · rintro (h | rfl | h)
        · exact .inl h
        · exact .inl q
        · exact .inr h
    · rw [List.mem_append, List.mem_singleton, or_assoc]
theorem keysL_nodup (ns : List Int) : (keysL ns).Nodup := (keys_fold ns [] List.nodup_nil).1
theorem mem_keysL (ns : List Int) (k : Int) : k ∈ keysL ns ↔ k ∈ ns := ((keys_fold ns [] List.nodup_nil).2 k).trans (by simp)
theorem fold_len (ns : List Int) : ∀ (kvs : List (Int × AV)), (ns.foldl (fun kvs n => storedA kvs n (.bool true)) kvs).length ≤ kvs.length + ns.length := by
  induction ns with
  | nil => intro kvs; exact Nat.le_refl _
  | cons n ns ih =>
    intro kvs
    refine Nat.le_trans (ih _) ?_
    have e := congrArg List.length (storedA_keys kvs n (.bool true))
    rw [List.length_map] at e
    rw [List.length_cons, e]
    split
    · rw [List.length_map]; omega
    · rw [List.length_append, List.length_map, List.length_singleton]; omega
theorem dictL_len (ns : List Int) : (dictL ns).length ≤ ns.length := by
  have := fold_len ns []
  rw [List.length_nil, Nat.zero_add] at this
  exact this
theorem all_in {l l' : List Str} (h : l.all (fun x => l'.contains x) = true) : ∀ y ∈ l, y ∈ l' := fun y hy => List.contains_iff_mem.mp (List.all_eq_true.mp h y hy)
theorem keysL_len (ns : List Int) : (keysL ns).length ≤ ns.length := by
  unfold keysL; rw [List.length_map]; exact Nat.le_trans (fold_len ns []) (by simp)
theorem dictL_keys (ns : List Int) : (dictL ns).map (fun p => AV.int p.1) = (keysL ns).map .int := by unfold keysL; rw [List.map_map]; rfl

end

section
open PySem PySem.W PyProof.Rows PySem.Calls
section
variable {sc : Scope} {a : Act sc} {loc : Loc} {led : Led} {K : KV}
/-- a call with one keyword -/
theorem Ev_callK {f : Addr} {x kw : Str} {np pos kp : Pos} {e : Expr} (O : a.Ok) {gs : List (Str × Value)} (G : GOk sc gs) (g : GetG x (.ref f) gs) (hk : ∀ w : World, keepIn (KF w.params) (.ref f) = true)
    (h : Ev a (eval e a.env) loc led fun av loc led => OpL a (fun vs => call (.ref f) [] [(kw, vs.headD .none)]) [av] loc led K) :
    Ev a (eval (.Call (.Name x np) [] [⟨some kw, e, kp⟩] pos) a.env) loc led K := by
  intro s R
  show wpAny _ _ (do callWith pos (← eval (.Name x np) a.env) [] (backTo pos (starEach [] a.env)) (backToKw pos (keywordEach [⟨some kw, e, kp⟩] a.env))) _ _ s
  refine wpAny_bind (glob_at O R G g ?_)
  refine callWith_KW0 (K := KF a.w.params) (h₀ := a.h₀) O.glob.2 (hk a.w) (by rfl) ?_ (by rfl)
  refine wpAny_evalAll_cons (wpAny_bind (wpAny_mono (h s R) (fun v s₁ p => ?_) fun _ _ e => e))
  obtain ⟨av, l1, d1, k1, R1, t1, r1⟩ := p
  refine wpAny_bind (wpAny_standAt (wpAny_pure (wpAny_evalAll_nil ⟨O.glob.2.keeps R1.keep, ?_⟩)))
  exact wpAny_mono (k1 s₁ [v] R1 (.cons r1 .nil)) (fun _ _ p => p.from t1) fun _ _ e => e
end

end

section
open PySem PySem.W PyProof.Rows
section
variable {sc : Scope} {a : Act sc} {loc : Loc} {led : Led} {s : Shared} {K : KV}
/-- a tuple is walked -/
theorem iter_tup {its : List AV} (O : a.Ok) (H : a.hd = true) : IterOf a (.tup its) its [] loc led := by
  rintro s v Q R ⟨d, vs, rfl, ht, hr⟩ h
  obtain ⟨o, ho, hc, n, hdt⟩ := id ht
  have htu : s.heap.IsTuple d vs.toArray := ⟨o, ho, hc, n, hdt⟩
  have hne : d ≠ s.heap.objs.size := Nat.ne_of_lt (Heap.lt_size ho)
  refine wpAny_pyIter_tuple htu ?_
  have W := Walks.tuple (prog := PW) (w := a.w) (A := a.A) (O.room.1 H) s.heap.objs.size d hne vs.toArray
  have hlen : vs.toArray.size = its.length := by rw [List.size_toArray, hr.length]
  rw [hlen] at W
  have hf := R.fresh_led
  refine h _ _ _ _ _ _ W ⟨⟨_, Heap.get?_push_size _ rfl, rfl, rfl⟩, htu.push _⟩ (fun b o e => Heap.get?_push_of_some _ e) (fun b hb => ?_) (fun i h st b hb vs ht => ?_) (fun b hb => ?_) (fun i h st b hb => ?_) (fun i h st => ?_) (fun i v h'' hi hP tk => ?_)
  · rw [List.mem_singleton.mp hb]; exact fresh_get _
  · rw [List.mem_singleton.mp hb] at ht
    obtain ⟨⟨o, e1, e2, _⟩, _⟩ := st
    obtain ⟨o', e3, e4, _⟩ := ht
    rw [e1] at e3; cases e3; rw [e2] at e4; exact ty_ne e4 (by decide)
  · rcases List.mem_cons.mp hb with rfl | hb
    · exact hf
    · rw [List.mem_singleton.mp hb]
      refine ⟨fun hm => ?_, fun e => ?_⟩
      · obtain ⟨p, hp, e⟩ := List.mem_map.mp hm
        obtain ⟨_, _, hn⟩ := (R.objs p hp).there
        rw [e] at hn
        exact hn _ ht
      · obtain ⟨m, ns, _⟩ := R.ns
        rw [← e] at ns
        exact ns_cls ns _ ht
  · obtain ⟨⟨o, e1, _⟩, o', e2, _⟩ := st
    rcases List.mem_cons.mp hb with rfl | hb
    · exact ⟨o, e1⟩
    · rw [List.mem_singleton.mp hb]; exact ⟨o', e2⟩
  · obtain ⟨⟨o, e1, e2, _⟩, _⟩ := st
    exact ⟨o, _, e1, e2, by decide⟩
  · have hi' : i < vs.length := by rw [hr.length]; exact hi
    obtain ⟨u, eu, ru⟩ := hr.get (show its[i]? = some its[i] by simp [hi])
    have : vs[i]? = some v := by simpa using hP
    rw [this] at eu; cases eu
    exact ⟨its[i], by simp [hi], ru.mono tk⟩
/-- how often a sign stands in a text: not at all, or some times -/
theorem cnt_nn (c : Nat) : ∀ l : List Nat, 0 ≤ cnt c l ∧ (c ∈ l → 0 < cnt c l)
  | [] => ⟨Int.le_refl _, fun h => nomatch h⟩
  | n :: r => by
    obtain ⟨h1, h2⟩ := cnt_nn c r
    rw [cnt_cons]
    by_cases e : n = c
    · rw [if_pos e]; exact ⟨by omega, fun _ => by omega⟩
    · rw [if_neg e]
      refine ⟨by omega, fun h => ?_⟩
      rcases List.mem_cons.mp h with h | h
      · exact absurd h.symm e
      · have := h2 h; omega
theorem count_pos (x : Str) (c : Nat) : decide (0 < Txt.count x ⟨#[c]⟩) = decide (c ∈ x.cps.toList) := by
  rw [count_is]
  show decide (0 < cnt c x.cps.toList) = _
  by_cases h : c ∈ x.cps.toList
  · rw [decide_eq_true h, decide_eq_true ((cnt_nn c _).2 h)]
  · rw [decide_eq_false h, cnt_none c _ h]; rfl
/-- xs[:k] of a list that stood before -/
theorem Ev_SliceToB {value upper : Expr} {p pos : Pos} {ld : Addr} {xs : List Int} {ws : List Value} {k : Nat} (O : a.Ok) (ht : ∀ o r, letTemporaryGo value o r = pure ())
    (hb : a.h₀.IsList ld ws.toArray) (hr : IntsAre ws xs) (hz : xs.length ≤ 1000000)
    (h : Ev a (eval value a.env) loc led fun x loc led => x = .ref ld ∧ EvP a (some upper) loc led fun u loc led => u = some (k : Int) ∧ ∀ r, K (.ref r) loc ((r, .list ((xs.take k).map AV.int)) :: led)) :
    Ev a (eval (.Subscript value (.Slice none (some upper) none p) pos) a.env) loc led K := by
  intro s R
  refine wpAny_Subscript_list_slice (wpAny_mono (h s R) (fun o s₁ p => ?_) fun _ _ e => e) ht
  obtain ⟨x, l1, d1, ⟨rfl, k1⟩, R1, t1, rfl⟩ := p
  rw [evalPart_none]
  refine wpAny_pure ?_
  refine k1.run R1 fun l l2 d2 s₂ k2 R2 t2 => ?_
  obtain ⟨e, k2⟩ := k2
  cases l with
  | none => cases e
  | some q =>
    obtain ⟨j, t⟩ := q
    cases e
    have hrl := ints_relL (h := s₂.heap) hr
    have hwl : ws.length = xs.length := by have := hrl.length; rw [List.length_map] at this; exact this
    refine ⟨ld, ws.toArray, none, some (k : Int), rfl, hb.at fun o e => R2.keep _ _ e, by rw [List.size_toArray, hwl]; exact Nat.le_trans hz (by decide), .none, .int _ _, ?_⟩
    have hk : ∀ b o', s₂.heap.get? b = some o' → (s₂.heap.push { cls := .type "slice", data := .fields #[.none, partValue (some ((k : Int), t)), .none] }).get? b = some o' := fun b o' e => Heap.get?_push_of_some _ e
    have R3 := R2.grow hk s₂.toks s₂.drawn
    rw [slicePick_upto']
    have htk : RelL ((s₂.heap.push { cls := .type "slice", data := .fields #[.none, partValue (some ((k : Int), t)), .none] }).push { cls := .type "list", data := .seq (ws.take k).toArray }) ((xs.take k).map AV.int) (ws.take k) := by
      refine relL_of (by rw [List.length_take, List.length_map, List.length_take, hwl]) fun j v hv => ?_
      rw [List.getElem?_take] at hv
      split at hv
      · rename_i hj
        obtain ⟨x, e1, r1⟩ : ∃ x, (xs.map AV.int)[j]? = some x ∧ Rel s₂.heap x v := by
          have hjl : j < (xs.map AV.int).length := by
            rw [List.length_map, ← hwl]; exact (List.getElem?_eq_some_iff.mp hv).1
          obtain ⟨v', e', r'⟩ := hrl.get (List.getElem?_eq_getElem hjl)
          rw [hv] at e'; cases e'
          exact ⟨_, List.getElem?_eq_getElem hjl, r'⟩
        refine ⟨x, ?_, r1.mono (TK.keeps fun b o' e => Heap.get?_push_of_some _ (hk b o' e))⟩
        rw [show (xs.take k).map AV.int = (xs.map AV.int).take k from List.map_take, List.getElem?_take, if_pos hj]; exact e1
      · cases hv
    obtain ⟨R4, t4⟩ := R3.alloc O (o := { cls := .type "list", data := .seq (ws.take k).toArray }) (x := .list ((xs.take k).map AV.int)) ⟨ws.take k, 0, Heap.get?_push_size _ rfl, htk⟩ s₂.toks
    refine ⟨_, l2, _, k2 (s₂.heap.objs.size + 1), ?_, (t1.trans t2).trans ((TK.keeps hk).trans t4), rfl⟩
    have := R4
    rw [show (s₂.heap.push { cls := .type "slice", data := .fields #[.none, partValue (some ((k : Int), t)), .none] }).objs.size = s₂.heap.objs.size + 1 from Heap.size_push ..] at this
    exact this
/-- a text's part, the text no name -/
theorem Ev_SliceC {value : Expr} {lower upper : Option Expr} {p pos : Pos} (hs : ∀ y t r, subscripted (.Slice lower upper none p) false (.str y t) (.ref r) = operate [.ref r, .str y t] (getItem (.str y t) (.ref r)))
    (h : Ev a (eval value a.env) loc led fun x loc led => ∃ y, x = .str y ∧ EvP a lower loc led (cSl2 a upper y K)) : Ev a (eval (.Subscript value (.Slice lower upper none p) pos) a.env) loc led K := by
  intro s R
  refine Subscript_ (wpAny_mono (h s R) (fun o s₁ p => wpAny_Slice ?_) fun _ _ e => e)
  obtain ⟨x, l1, d1, ⟨y, rfl, k1⟩, R1, t1, ⟨t, rfl⟩⟩ := p
  refine k1.run R1 fun l l2 d2 s₂ k2 R2 t2 => ?_
  refine k2.run R2 fun u l3 d3 s₃ k3 R3 t3 => ?_
  rw [evalPart_none]
  refine wpAny_pure ?_
  refine tail_any (typeIs_str _ y t) F.slot_str_getitem.lookup (wpAny_getItem_str_slice (l := l) (u := u) (st := none) ⟨_, Heap.get?_push_size _ rfl, rfl, rfl⟩ rfl ?_) (hs y t _)
  have hk : ∀ b o', s₃.heap.get? b = some o' → (s₃.heap.push { cls := .type "slice", data := .fields #[partValue l, partValue u, .none] }).get? b = some o' := fun b o' e => Heap.get?_push_of_some _ e
  have hsz : (Txt.slice y (l.map (·.1)) (u.map (·.1))).length ≤ sizeLine := Nat.le_trans (Txt.slice_le y _ _) (Nat.le_trans k3.1 (by decide))
  exact post_val_or_str ⟨hsz, fun t' k => ⟨_, l3, d3, k3.2, R3.grow hk _ s₃.drawn, ((t1.trans t2).trans t3).trans (TK.keeps hk), _, rfl⟩⟩
/-- 10 ** 9 -/
theorem pow_109 (h : K (.int 1000000000) loc led) : Op2 a (binaryOp .Pow) (.int 10) (.int 9) loc led K := by
  rintro s v u R ⟨t, rfl⟩ ⟨t', rfl⟩
  exact PySem.AutoIntOps.pow_4 (by decide) (by decide) (by decide) (by decide) (by decide +kernel) (.toks h R ⟨_, rfl⟩ _)
/-- a dict display of two texts -/
noncomputable abbrev cDict2 (D : Addr) (x y : Str) (av1 : AV) (K : KV) : KV := fun av2 l d => ∃ d', GetO D (.dS []) d ∧ SetO D (.dS [(x, av1), (y, av2)]) d d' ∧ K (.ref D) l d'
noncomputable abbrev cDict1 (a : Act sc) (v2 : Expr) (D : Addr) (x y : Str) (K : KV) : KV := fun av1 l d => Ev a (eval v2 a.env) l d (cDict2 D x y av1 K)
theorem Ev_DictS2 {x y : Str} {v1 v2 : Expr} {n1 n2 : Nat} {p1 p2 pos : Pos} (O : a.Ok) (hxy : x ≠ y) (h : ∀ D, Ev a (eval v1 a.env) loc ((D, .dS []) :: led) (cDict1 a v2 D x y K)) :
    Ev a (eval (.Dict [some (.Constant (.str x) n1 p1), some (.Constant (.str y) n2 p2)] [v1, v2] pos) a.env) loc led K := by
  intro s R
  refine wpAny_Dict_walk (knd := strKind PW a.w) rfl rfl (by simp) (Nat.le_of_ble_eq_true rfl) ?_
  obtain ⟨R', t'⟩ := R.alloc O (o := { cls := .type "dict", data := .dict #[] }) (x := .dS []) ⟨[], Heap.DictOf.new s.heap, rfl⟩ s.toks
  refine pairTrees_cons_walk (wpAny_Constant_str (wpAny_mono (h s.heap.objs.size _ (R'.toks _)) (fun v1 s₁ p => ?_) fun _ _ e => e))
  obtain ⟨av1, l1, d1, k1, R1, t1, r1⟩ := p
  refine pairTrees_cons_walk (wpAny_Constant_str (wpAny_mono (k1 _ (R1.toks _)) (fun v2 s₂ p => ?_) fun _ _ e => e))
  obtain ⟨av2, l2, d2, ⟨d', g, g', k⟩, R2, t2, r2⟩ := p
  refine pairTrees_nil_walk ?_
  obtain ⟨vs, hd, hr⟩ := R2.objs _ g.mem
  have hvs : vs = [] := List.length_eq_zero_iff.mp hr.length
  subst hvs
  have hm : merged [] [(x, v1), (y, v2)] = [(x, v1), (y, v2)] := by
    unfold merged
    simp [PySem.stored, hxy]
  refine ⟨[(x, v1), (y, v2)], ⟨strKind_is PW a.w x _, rfl, strKind_is PW a.w y _, rfl, trivial⟩, hd, fun h' hd' hs => ?_⟩
  rw [hm] at hd'
  obtain ⟨o, eo, hn⟩ := (R2.objs _ g.mem).there
  have tk := TK.but hs hn
  have rk : RelK h' [(x, av1), (y, av2)] [(x, v1), (y, v2)] := ⟨_, _, rfl, (r1.mono t2).mono tk, _, _, rfl, r2.mono tk, rfl⟩
  obtain ⟨R3, t3⟩ := R2.change g' (tk := s₂.toks + 2) hs ⟨_, hd', rk⟩
  exact ⟨_, l2, d', k, R3, ((t'.trans t1).trans t2).trans t3, rfl⟩
end

end

open PySem PySem.W PyProof.Rows
-- the place in a list of locals or in the ledger
local macro_rules | `(tactic| k_allIn) => `(tactic| focus ((with_reducible (repeat (first | exact .here | apply GetL.there | apply GetG.there | apply SetL.there | apply GetO.there | apply SetO.there | apply GetK.there | apply PutK.there | exact PickO.nil | apply PickO.cons | apply TakeO.there | exact AppO.nil | apply AppO.cons | exact SnocK.nil | apply SnocK.cons))) <;> fail))

theorem str_len (x y : Str) : (x ++ y).length = x.length + y.length := by
  show (x.cps ++ y.cps).size = _
  exact Array.size_append
theorem g315 : GOk (scf 315) [(Str.ofString "number_text", .ref 315), (Str.ofString "FIGURES", .str (Str.ofString "0123456789") 596)] := .cons (by decide +kernel) gl_number_text (.cons (by decide +kernel) gl_FIGURES .nil)
/-- the figures of n ahead of x -/
noncomputable def numGo : Nat → Nat → Str → Str
  | 0, _, x => x
  | f + 1, n, x => if n ≤ 9 then x else numGo f (n / 10) (⟨#[48 + (n / 10) % 10]⟩ ++ x)
noncomputable def numText (n : Nat) : Str := numGo n n ⟨#[48 + n % 10]⟩
theorem figure_at {i : Nat} (h : i < 10) : (Str.ofString "0123456789").cps.toList[i]? = some (48 + i) := by
  have : ∀ i < 10, (Str.ofString "0123456789").cps.toList[i]? = some (48 + i) := by decide +kernel
  exact this i h
theorem fs_number_text {n : Nat} (hn : n < 100000) : FS 315 2 [.int n] [] fun v led => v = .str (numText n) ∧ led = [] := by
  refine FS.intro (scf 315) [Str.ofString "n"] [Str.ofString "text"] [(Str.ofString "n", some (.int n)), (Str.ofString "text", none)] (fun P => by rfl) (fun P => by kernel_rfl!) (by rfl) rfl (len1 fun _ => rfl) (by decide +kernel) (by decide +kernel) (by rfl) (by rfl) (by rfl) (by decide +kernel) rfl ?_ (by decide)
  intro a O hr hh
  have G := g315
  with_reducible
    apply Ex_cons; assumption
    apply Ex_If
    apply EvB_Compare; (k_dflt rfl)
    apply Ev_loc; assumption; k_allIn
    apply Ev_int
    apply lt_ii
    apply truthy_b
    refine Two.f rfl ?_
    apply Ex_nil
    apply Ex_cons; assumption
    apply Ex_Assign; assumption; (k_dflt rfl)
    apply Ev_Sub
    apply Ev_globS; assumption; assumption; k_allIn
    apply Ev_BinOp
    apply Ev_loc; assumption; k_allIn
    apply Ev_int
  refine mod_ii (by decide) ?_
  have e0 : ∀ m : Nat, (m : Int).fmod 10 = ((m % 10 : Nat) : Int) := fun m => fm m 10
  have e1 : ∀ m : Nat, (m : Int).fdiv 10 = ((m / 10 : Nat) : Int) := fun m => fd m 10
  rw [e0]
  refine sub_s (c := 48 + n % 10) (by omega) (by omega) (by rw [Int.toNat_natCast]; exact figure_at (Nat.mod_lt _ (by decide))) (by intro _ _; with_unfolding_all rfl) (by intro _ _; rfl) ?_
  with_reducible
    apply Stored.mk; k_allIn
    apply Ex_cons; assumption
  refine Ex_While O (fun k loc led => ∃ f m x, k = m ∧ m ≤ f ∧ numGo f m x = numText n ∧ x.length + m ≤ 100001 ∧ loc = [(Str.ofString "n", some (.int (m : Nat))), (Str.ofString "text", some (.str x))] ∧ led = []) n (Has.mk .nil ⟨n, n, _, rfl, Nat.le_refl _, rfl, by show 1 + n ≤ 100001; omega, rfl, rfl⟩) ?_
  rintro h m loc led O _ ⟨f, _, x, rfl, hf, hg, hx, rfl, rfl⟩
  with_reducible
    apply EvB_Compare; (k_dflt rfl)
    apply Ev_loc; assumption; k_allIn
    apply Ev_int
    apply gt_ii
    apply truthy_b
  refine ⟨fun hb => ?_, fun hb => ?_⟩
  · have hm : 9 < m := by have := of_decide_eq_true hb; omega
    with_reducible
      apply Ex_cons; assumption
      apply Ex_AugAssign; assumption; k_allIn
      apply Ev_int
    refine idiv_ii (by decide) (PyProof.noPylong_small (by omega)) ?_
    rw [e1]
    with_reducible
      apply Stored.mk; k_allIn
      apply Ex_cons; assumption
      apply Ex_Assign; assumption; (k_dflt rfl)
      apply Ev_BinOp
      apply Ev_Sub
      apply Ev_globS; assumption; assumption; k_allIn
      apply Ev_BinOp
      apply Ev_loc; assumption; k_allIn
      apply Ev_int
    refine mod_ii (by decide) ?_
    rw [e0]
    refine sub_s (c := 48 + m / 10 % 10) (by omega) (by omega) (by rw [Int.toNat_natCast]; exact figure_at (Nat.mod_lt _ (by decide))) (by intro _ _; with_unfolding_all rfl) (by intro _ _; rfl) ?_
    with_reducible
      apply Ev_loc; assumption; k_allIn
    refine add_ss ?_ ?_
    · show 1 + x.length ≤ _
      rw [sizeLine_eq]; omega
    with_reducible
      apply Stored.mk; k_allIn
      apply Ex_nil
    refine Has.mk .nil ⟨m / 10, by omega, f - 1, m / 10, _, rfl, by omega, ?_, ?_, rfl, rfl⟩
    · rw [← hg]
      obtain ⟨f', rfl⟩ : ∃ f', f = f' + 1 := ⟨f - 1, by omega⟩
      conv => rhs; unfold numGo
      rw [if_neg (by omega)]; rfl
    · rw [str_len]
      show (1 + x.length) + m / 10 ≤ _
      omega
  · have hm : m ≤ 9 := by have := of_decide_eq_false hb; omega
    with_reducible
      apply Ex_cons; assumption
      apply Ex_Return
      apply Ev_loc; assumption; k_allIn
    refine Has.mk .nil ⟨?_, rfl⟩
    rw [← hg]
    cases f with
    | zero => rfl
    | succ f => unfold numGo; rw [if_pos hm]


theorem g322 : GOk (scf 322) [(S "isinstance", .builtin "isinstance"), (S "Scalar", .ref 117)] := .cons (by decide +kernel) gl_isinstance (.cons (by decide +kernel) gl_Scalar .nil)
theorem fs_value_of {x d wk : Addr} {num : Int} {val : AV} : FS 322 2 [.ref x] (scal x d wk num val) fun v led => v = val ∧ led = scal x d wk num val := by
  refine FS.intro (scf 322) [S "x"] [] [(S "x", some (.ref x))] (fun P => by rfl) (fun P => by kernel_rfl!) (by rfl) rfl (len1 fun _ => rfl) (by decide +kernel) (by decide +kernel) (by rfl) (by rfl) (by rfl) (by decide +kernel) rfl ?_ (by decide)
  intro a O hr hh
  have G := g322
  with_reducible
    apply Ex_cons; assumption
    apply Ex_If
    apply EvB_Not
    apply EvB_plain; (k_dflt rfl)
    apply Ev_callB; assumption; assumption; k_allIn; (k_dflt rfl)
    apply EvL_cons; (k_dflt rfl)
    apply Ev_loc; assumption; k_allIn
    apply EvL_cons; (k_dflt rfl)
    apply Ev_globR; assumption; assumption; k_allIn
    apply EvL_nil
    apply isi_own own117; assumption; k_allIn; k_allIn; exact isi_117_117
    apply truthy_b
    refine Two.f rfl ?_
    apply Ex_nil
    apply Ex_cons; assumption
    apply Ex_If
    apply EvB_Compare; (k_dflt rfl)
    apply Ev_Attr; (with_unfolding_all rfl)
    apply Ev_loc; assumption; k_allIn
    apply get_at; assumption; k_allIn; k_allIn; (first | exact cls117 | exact cls389 | exact cls579 | exact cls614 | exact cls636 | exact cls276); (k_dflt rfl); k_allIn
    apply Ev_none
    apply isnot_n
    apply truthy_b
    refine Two.f rfl ?_
    apply Ex_nil
    apply Ex_cons; assumption
    apply Ex_Return
    apply Ev_Attr; (with_unfolding_all rfl)
    apply Ev_loc; assumption; k_allIn
    apply get_at; assumption; k_allIn; k_allIn; (first | exact cls117 | exact cls389 | exact cls579 | exact cls614 | exact cls636 | exact cls276); (k_dflt rfl); k_allIn
  exact Has.mk (by k_allIn) ⟨rfl, rfl⟩
theorem g308 : GOk (scf 308) [(S "isinstance", .builtin "isinstance"), (S "Array", .ref 136), (S "Hash", .ref 155)] := .cons (by decide +kernel) gl_isinstance (.cons (by decide +kernel) gl_Array (.cons (by decide +kernel) gl_Hash .nil))
theorem fs_need_scalar {x d wk : Addr} {num : Int} {val : AV} : FS 308 2 [.ref x] (scal x d wk num val) fun v led => v = .ref x ∧ led = scal x d wk num val := by
  refine FS.intro (scf 308) [S "thing"] [] [(S "thing", some (.ref x))] (fun P => by rfl) (fun P => by kernel_rfl!) (by rfl) rfl (len1 fun _ => rfl) (by decide +kernel) (by decide +kernel) (by rfl) (by rfl) (by rfl) (by decide +kernel) rfl ?_ (by decide)
  intro a O hr hh
  have G := g308
  with_reducible
    apply Ex_cons; assumption
    apply Ex_If
    apply EvB_plain; (k_dflt rfl)
    apply Ev_callB; assumption; assumption; k_allIn; (k_dflt rfl)
    apply EvL_cons; (k_dflt rfl)
    apply Ev_loc; assumption; k_allIn
    apply EvL_cons; (k_dflt rfl)
    apply Ev_Tuple
    apply EvL_cons; (k_dflt rfl)
    apply Ev_globR; assumption; assumption; k_allIn
    apply EvL_cons; (k_dflt rfl)
    apply Ev_globR; assumption; assumption; k_allIn
    apply EvL_nil
    apply new_tuple; (k_dflt exact Nat.le_of_ble_eq_true rfl)
    apply EvL_nil
    apply isi_own2 own117; assumption; k_allIn; k_allIn; exact isi_117_ah
    apply truthy_b
    refine Two.f rfl ?_
    apply Ex_nil
    apply Ex_cons; assumption
    apply Ex_Return
    apply Ev_loc; assumption; k_allIn
  exact Has.mk (by k_allIn) ⟨rfl, rfl⟩
theorem g475 : GOk (scf 475) [(S "need_scalar", .ref 308)] := .cons (by decide +kernel) gl_need_scalar .nil
theorem fs_match_target {r : AV} {x d wk : Addr} {num : Int} {val : AV} : FS 475 3 [r, .ref x] (scal x d wk num val) fun v led => v = .ref x ∧ led = scal x d wk num val := by
  refine FS.intro (scf 475) [S "run", S "thing"] [] [(S "run", some r), (S "thing", some (.ref x))] (fun P => by rfl) (fun P => by kernel_rfl!) (by rfl) rfl (len2 fun _ _ => rfl) (by decide +kernel) (by decide +kernel) (by rfl) (by rfl) (by rfl) (by decide +kernel) rfl ?_ (by decide)
  intro a O hr hh
  have G := g475
  with_reducible
    apply Ex_cons; assumption
    apply Ex_Return
    apply Ev_IfExp
    apply EvB_Compare; (k_dflt rfl)
    apply Ev_loc; assumption; k_allIn
    apply Ev_none
    apply is_n
    apply truthy_b
    refine Two.f rfl ?_
  with_reducible refine Ev_call O G (by k_allIn) (fun w => by k_dflt kernel_rfl!) (by k_dflt rfl) ?_
  with_reducible
    apply EvL_cons; (k_dflt rfl)
    apply Ev_loc; assumption; k_allIn
    apply EvL_nil
  refine OpL_FSe fs_need_scalar O hh (room_of hr rfl) (by decide) (by k_allIn) ?_
  with_reducible
    apply Appd.mk; k_allIn
  exact Has.mk (by k_allIn) ⟨rfl, rfl⟩
theorem g329 : GOk (scf 329) [(S "isinstance", .builtin "isinstance"), (S "int", .type "int"), (S "number_text", .ref 315), (S "Ref", .ref 213)] := .cons (by decide +kernel) gl_isinstance (.cons (by decide +kernel) gl_int (.cons (by decide +kernel) gl_number_text (.cons (by decide +kernel) gl_Ref .nil)))
theorem fs_to_text_n : FS 329 3 [.none] [] fun v led => v = .str (S "") ∧ led = [] := by
  refine FS.intro (scf 329) [S "value"] [] [(S "value", some .none)] (fun P => by rfl) (fun P => by kernel_rfl!) (by rfl) rfl (len1 fun _ => rfl) (by decide +kernel) (by decide +kernel) (by rfl) (by rfl) (by rfl) (by decide +kernel) rfl ?_ (by decide)
  intro a O hr hh
  have G := g329
  with_reducible
    apply Ex_cons; assumption
    apply Ex_If
    apply EvB_Compare; (k_dflt rfl)
    apply Ev_loc; assumption; k_allIn
    apply Ev_none
    apply is_n
    apply truthy_b
    refine Two.t rfl ?_
    apply Ex_cons; assumption
    apply Ex_Return
    apply Ev_str
  exact Has.mk (by k_allIn) ⟨rfl, rfl⟩
theorem fs_to_text_i {n : Nat} (hn : n < 100000) : FS 329 3 [.int n] [] fun v led => v = .str (numText n) ∧ led = [] := by
  refine FS.intro (scf 329) [S "value"] [] [(S "value", some (.int n))] (fun P => by rfl) (fun P => by kernel_rfl!) (by rfl) rfl (len1 fun _ => rfl) (by decide +kernel) (by decide +kernel) (by rfl) (by rfl) (by rfl) (by decide +kernel) rfl ?_ (by decide)
  intro a O hr hh
  have G := g329
  with_reducible
    apply Ex_cons; assumption
    apply Ex_If
    apply EvB_Compare; (k_dflt rfl)
    apply Ev_loc; assumption; k_allIn
    apply Ev_none
    apply is_n
    apply truthy_b
    refine Two.f rfl ?_
    apply Ex_nil
    apply Ex_cons; assumption
    apply Ex_If
    apply EvB_plain; (k_dflt rfl)
    apply Ev_callB; assumption; assumption; k_allIn; (k_dflt rfl)
    apply EvL_cons; (k_dflt rfl)
    apply Ev_loc; assumption; k_allIn
    apply EvL_cons; (k_dflt rfl)
    apply Ev_globT; assumption; assumption; k_allIn
    apply EvL_nil
    apply isi_T; (k_dflt rfl); assumption; (first | exact isi_int_int | exact isi_str_int)
    apply truthy_b
    refine Two.t rfl ?_
    apply Ex_cons; assumption
    apply Ex_Return
  with_reducible refine Ev_call O G (by k_allIn) (fun w => by k_dflt kernel_rfl!) (by k_dflt rfl) ?_
  with_reducible
    apply EvL_cons; (k_dflt rfl)
    apply Ev_loc; assumption; k_allIn
    apply EvL_nil
  refine OpL_FSe (fs_number_text hn) O hh (room_of hr rfl) (by decide) (by k_allIn) ?_
  with_reducible
    apply Appd.mk; k_allIn
  exact Has.mk (by k_allIn) ⟨rfl, rfl⟩
theorem fs_to_text_s {x : Str} : FS 329 3 [.str x] [] fun v led => v = .str x ∧ led = [] := by
  refine FS.intro (scf 329) [S "value"] [] [(S "value", some (.str x))] (fun P => by rfl) (fun P => by kernel_rfl!) (by rfl) rfl (len1 fun _ => rfl) (by decide +kernel) (by decide +kernel) (by rfl) (by rfl) (by rfl) (by decide +kernel) rfl ?_ (by decide)
  intro a O hr hh
  have G := g329
  with_reducible
    apply Ex_cons; assumption
    apply Ex_If
    apply EvB_Compare; (k_dflt rfl)
    apply Ev_loc; assumption; k_allIn
    apply Ev_none
    apply is_n
    apply truthy_b
    refine Two.f rfl ?_
    apply Ex_nil
    apply Ex_cons; assumption
    apply Ex_If
    apply EvB_plain; (k_dflt rfl)
    apply Ev_callB; assumption; assumption; k_allIn; (k_dflt rfl)
    apply EvL_cons; (k_dflt rfl)
    apply Ev_loc; assumption; k_allIn
    apply EvL_cons; (k_dflt rfl)
    apply Ev_globT; assumption; assumption; k_allIn
    apply EvL_nil
    apply isi_T; (k_dflt rfl); assumption; (first | exact isi_int_int | exact isi_str_int)
    apply truthy_b
    refine Two.f rfl ?_
    apply Ex_nil
    apply Ex_cons; assumption
    apply Ex_If
    apply EvB_plain; (k_dflt rfl)
    apply Ev_callB; assumption; assumption; k_allIn; (k_dflt rfl)
    apply EvL_cons; (k_dflt rfl)
    apply Ev_loc; assumption; k_allIn
    apply EvL_cons; (k_dflt rfl)
    apply Ev_globR; assumption; assumption; k_allIn
    apply EvL_nil
    apply isi_C; (k_dflt rfl); assumption; (first | exact isi_str_ref | exact isi_int_ref | exact isi_none_ref)
    apply truthy_b
    refine Two.f rfl ?_
    apply Ex_nil
    apply Ex_cons; assumption
    apply Ex_Return
    apply Ev_loc; assumption; k_allIn
  exact Has.mk (by k_allIn) ⟨rfl, rfl⟩


/-! ## trans -/
noncomputable abbrev lst (ns : List Int) : List AV := ns.map .int
/-- a table of transliteration -/
noncomputable abbrev ttab (t d cd bd md : Addr) (kvs : List (Int × AV)) (turned : Bool) (barred becomes : List Int) (del sq : Bool) : Led :=
  [(t, .inst 389 d), (d, .attrs [(S "codes", .ref cd), (S "is_turned", .bool turned), (S "barred", .ref bd), (S "becomes", .ref md), (S "is_deleting", .bool del), (S "is_squeezing", .bool sq)]), (cd, .dI kvs), (bd, .list (lst barred)), (md, .list (lst becomes))]
theorem g442 : GOk (scf 442) [(S "len", .builtin "len")] := .cons (by decide +kernel) gl_len .nil
/-- where bisection ends -/
noncomputable def bis (xs : List Int) (c : Int) : Nat → Nat → Nat → Nat
  | 0, lo, _ => lo
  | f + 1, lo, hi => if lo < hi then (if xs.getD ((lo + hi) / 2) 0 < c then bis xs c f ((lo + hi) / 2 + 1) hi else bis xs c f lo ((lo + hi) / 2)) else lo
noncomputable def rankOut (xs : List Int) (c : Int) : Int :=
  let b := bis xs c xs.length 0 xs.length
  if b < xs.length ∧ xs.getD b 0 = c then -1 else c - b
inductive J3 (bd : Addr) (xs : List Int) (c : Int) (B k : Nat) (loc : Loc) (led : Led) : Prop
  | intro (f lo hi : Nat) (mid : Option AV) (h0 : k = hi - lo) (h1 : lo ≤ hi) (h2 : hi ≤ xs.length) (h3 : hi - lo ≤ f) (h4 : bis xs c f lo hi = B)
    (hl : loc = [(S "barred", some (.ref bd)), (S "code", some (.int c)), (S "below", some (.int (lo : Nat))), (S "beyond", some (.int (hi : Nat))), (S "middle", mid)]) (hd : led = [(bd, .list (lst xs))])
theorem lst_get0 {xs : List Int} {i : Nat} (h : i < xs.length) : (lst xs)[i]? = some (.int (xs.getD i 0)) := by
  rw [List.getElem?_map, List.getElem?_eq_getElem h, List.getD_eq_getElem?_getD, List.getElem?_eq_getElem h]; rfl
theorem small63 {i n : Nat} (h : i < n) (hz : n < 1000) : (i : Int) < 2 ^ 63 := by omega
theorem lt_dec {i j : Nat} (h : decide ((i : Int) < (j : Int)) = true) : i < j := Int.ofNat_lt.mp (of_decide_eq_true h)
theorem ge_dec {i j : Nat} (h : decide ((i : Int) < (j : Int)) = false) : ¬ i < j := fun q => of_decide_eq_false h (Int.ofNat_lt.mpr q)
theorem mid_lt {lo hi n : Nat} (h : lo < hi) (h2 : hi ≤ n) : (lo + hi) / 2 < n := by omega
theorem mid_up {lo hi f : Nat} (h : lo < hi) (h3 : hi - lo ≤ f + 1) : hi - ((lo + hi) / 2 + 1) < hi - lo ∧ (lo + hi) / 2 + 1 ≤ hi ∧ hi - ((lo + hi) / 2 + 1) ≤ f := by omega
theorem mid_dn {lo hi f : Nat} (h : lo < hi) (h3 : hi - lo ≤ f + 1) : (lo + hi) / 2 - lo < hi - lo ∧ lo ≤ (lo + hi) / 2 ∧ (lo + hi) / 2 - lo ≤ f := by omega
theorem fuel_pos {lo hi f : Nat} (h : lo < hi) (h3 : hi - lo ≤ f) : f = (f - 1) + 1 := by omega
theorem fs_rank_outside {bd : Addr} {xs : List Int} {c : Int} (hz : xs.length < 1000) : FS 442 2 [.ref bd, .int c] [(bd, .list (lst xs))] fun v led => v = .int (rankOut xs c) ∧ led = [(bd, .list (lst xs))] := by
  refine FS.intro (scf 442) [S "barred", S "code"] [S "below", S "beyond", S "middle"] [(S "barred", some (.ref bd)), (S "code", some (.int c)), (S "below", none), (S "beyond", none), (S "middle", none)] (fun P => by rfl) (fun P => by kernel_rfl!) (by rfl) rfl (len2 fun _ _ => rfl) (by decide +kernel) (by decide +kernel) (by rfl) (by rfl) (by rfl) (by decide +kernel) rfl ?_ (by decide)
  intro a O hr hh
  have G := g442
  with_reducible
    apply Ex_cons; assumption
    apply Ex_Swap2; assumption; (k_dflt assumption); (k_dflt rfl); (k_dflt rfl)
    apply Ev_Tuple
    apply EvL_cons; (k_dflt rfl)
    apply Ev_int
    apply EvL_cons; (k_dflt rfl)
    apply Ev_callB; assumption; assumption; k_allIn; (k_dflt rfl)
    apply EvL_cons; (k_dflt rfl)
    apply Ev_loc; assumption; k_allIn
    apply EvL_nil
    apply len_list; k_allIn; (k_dflt (simp only [List.length_map, List.length_append, List.length_cons, List.length_nil] <;> omega))
    apply EvL_nil
    apply new_tuple; (k_dflt exact Nat.le_of_ble_eq_true rfl)
    apply sw2
    apply Stored.mk; k_allIn
    apply Stored.mk; k_allIn
    apply Ex_cons; assumption
  rw [List.length_map]
  obtain ⟨B, hB⟩ : ∃ B, B = bis xs c xs.length 0 xs.length := ⟨_, rfl⟩
  refine Ex_While O (J3 bd xs c B) _
    (Has.mk (by k_allIn) ⟨xs.length, 0, xs.length, none, rfl, Nat.zero_le _, Nat.le_refl _, Nat.le_refl _, hB.symm, rfl, rfl⟩) ?_
  rintro h k loc led O' _ ⟨f, lo, hi, mid, rfl, h1, h2, h3, h4, rfl, rfl⟩
  with_reducible
    apply EvB_Compare; (k_dflt rfl)
    apply Ev_loc; assumption; k_allIn
    apply Ev_loc; assumption; k_allIn
    apply lt_ii
    apply truthy_b
  have em : ((lo : Int) + (hi : Int)).fdiv 2 = (((lo + hi) / 2 : Nat) : Int) := by
    have := fd (lo + hi) 2
    rw [← this]; rfl
  refine ⟨fun hb => ?_, fun hb => ?_⟩
  · have hlt : lo < hi := lt_dec hb
    obtain ⟨f', rfl⟩ : ∃ f', f = f' + 1 := ⟨f - 1, fuel_pos hlt h3⟩
    have hmx : (lo + hi) / 2 < xs.length := mid_lt hlt h2
    have hu := mid_up hlt h3
    have hd := mid_dn hlt h3
    unfold bis at h4
    rw [if_pos hlt] at h4
    with_reducible
      apply Ex_cons; assumption
      apply Ex_Assign; assumption; (k_dflt rfl)
      apply Ev_BinOp
      apply Ev_BinOp
      apply Ev_loc; assumption; k_allIn
      apply Ev_loc; assumption; k_allIn
      apply add_ii
      apply Ev_int
    refine div_ii (by decide) (PyProof.noPylong_small (by decide)) ?_
    rw [em]
    with_reducible
      apply Stored.mk; k_allIn
      apply Ex_cons; assumption
      apply Ex_If
      apply EvB_Compare; (k_dflt rfl)
      apply Ev_Sub
      apply Ev_loc; assumption; k_allIn
      apply Ev_loc; assumption; k_allIn
    refine sub_list (av := .int (xs.getD ((lo + hi) / 2) 0)) (by k_allIn) (Int.natCast_nonneg _) (small63 hmx hz) (by rw [Int.toNat_natCast]; exact lst_get0 hmx) (by intro _; with_unfolding_all rfl) ?_
    with_reducible
      apply Ev_loc; assumption; k_allIn
      apply lt_ii
      apply truthy_b
    refine ⟨fun hb => ?_, fun hb => ?_⟩
    · rw [if_pos (of_decide_eq_true hb)] at h4
      with_reducible
        apply Ex_cons; assumption
        apply Ex_Assign; assumption; (k_dflt rfl)
        apply Ev_BinOp
        apply Ev_loc; assumption; k_allIn
        apply Ev_int
        apply add_ii
        apply Stored.mk; k_allIn
        apply Ex_nil
        apply Ex_nil
      exact Has.mk (by k_allIn) ⟨hi - ((lo + hi) / 2 + 1), hu.1, f', (lo + hi) / 2 + 1, hi, _, rfl, hu.2.1, h2, hu.2.2, h4, rfl, rfl⟩
    · rw [if_neg (of_decide_eq_false hb)] at h4
      with_reducible
        apply Ex_cons; assumption
        apply Ex_Assign; assumption; (k_dflt rfl)
        apply Ev_loc; assumption; k_allIn
        apply Stored.mk; k_allIn
        apply Ex_nil
        apply Ex_nil
      exact Has.mk (by k_allIn) ⟨(lo + hi) / 2 - lo, hd.1, f', lo, (lo + hi) / 2, _, rfl, hd.2.1, Nat.le_of_lt hmx, hd.2.2, h4, rfl, rfl⟩
  · have hge : ¬ lo < hi := ge_dec hb
    have hlo : lo = B := by
      rw [← h4]
      cases f with
      | zero => rfl
      | succ f => unfold bis; rw [if_neg hge]
    subst hlo
    have hr : rankOut xs c = if lo < xs.length ∧ xs.getD lo 0 = c then -1 else c - lo := by unfold rankOut; rw [← hB]
    with_reducible
      apply Ex_cons; assumption
      apply Ex_If
      apply EvB_BoolOp
      apply all_cons
      apply EvB_Compare; (k_dflt rfl)
      apply Ev_loc; assumption; k_allIn
      apply Ev_callB; assumption; assumption; k_allIn; (k_dflt rfl)
      apply EvL_cons; (k_dflt rfl)
      apply Ev_loc; assumption; k_allIn
      apply EvL_nil
      apply len_list; k_allIn; (k_dflt (simp only [List.length_map, List.length_append, List.length_cons, List.length_nil] <;> omega))
      apply lt_ii
      apply truthy_b
    refine ⟨fun hb => ?_, fun hb => ?_⟩
    · have hx : lo < xs.length := by rw [List.length_map] at hb; exact lt_dec hb
      with_reducible
        apply all_cons
        apply EvB_Compare; (k_dflt rfl)
        apply Ev_Sub
        apply Ev_loc; assumption; k_allIn
        apply Ev_loc; assumption; k_allIn
      refine sub_list (av := .int (xs.getD lo 0)) (by k_allIn) (Int.natCast_nonneg _) (small63 hx hz) (by rw [Int.toNat_natCast]; exact lst_get0 hx) (by intro _; with_unfolding_all rfl) ?_
      with_reducible
        apply Ev_loc; assumption; k_allIn
        apply eq_ii
        apply truthy_b
      refine ⟨fun hb => ?_, fun hb => ?_⟩
      · with_reducible
          apply all_nil
          refine Two.t rfl ?_
          apply Ex_cons; assumption
          apply Ex_Return
          apply Ev_UnaryOp
          apply Ev_int
          apply neg_i
        refine Has.mk (by k_allIn) ⟨?_, rfl⟩
        rw [hr, if_pos ⟨hx, eq_of_beq hb⟩]
      · with_reducible
          refine Two.f rfl ?_
          apply Ex_nil
          apply Ex_cons; assumption
          apply Ex_Return
          apply Ev_BinOp
          apply Ev_loc; assumption; k_allIn
          apply Ev_loc; assumption; k_allIn
          apply sub_ii
        refine Has.mk (by k_allIn) ⟨?_, rfl⟩
        rw [hr, if_neg (fun q => beq_eq_false_iff_ne.mp hb q.2)]
    · have hx : ¬ lo < xs.length := by rw [List.length_map] at hb; exact ge_dec hb
      with_reducible
        refine Two.f rfl ?_
        apply Ex_nil
        apply Ex_cons; assumption
        apply Ex_Return
        apply Ev_BinOp
        apply Ev_loc; assumption; k_allIn
        apply Ev_loc; assumption; k_allIn
        apply sub_ii
      refine Has.mk (by k_allIn) ⟨?_, rfl⟩
      rw [hr, if_neg (fun q => hx q.1)]

/-! ### one sign -/
theorem g449 : GOk (scf 449) [(S "rank_outside", .ref 442), (S "KEPT_SIGN", .int (-1) 713), (S "len", .builtin "len"), (S "DROPPED_SIGN", .int (-2) 716)] := .cons (by decide +kernel) gl_rank_outside (.cons (by decide +kernel) gl_KEPT_SIGN (.cons (by decide +kernel) gl_len (.cons (by decide +kernel) gl_DROPPED_SIGN .nil)))
noncomputable def turnedC (barred becomes : List Int) (del : Bool) (c : Int) : Int :=
  let r := rankOut barred c
  if r < 0 then -1 else if r < becomes.length then becomes.getD r.toNat 0 else if del then -2 else if becomes.isEmpty then c else becomes.getLastD 0
theorem rankOut_lt {xs : List Int} {c : Int} (h : c < 2 ^ 40) (hz : xs.length < 1000) : rankOut xs c < 2 ^ 41 ∧ -(2 ^ 41) < rankOut xs c ∨ c < 0 := by
  by_cases h0 : c < 0
  · exact .inr h0
  · refine .inl ?_
    unfold rankOut
    have hb : ∀ f lo hi, lo ≤ hi → hi ≤ xs.length → bis xs c f lo hi ≤ xs.length := by
      intro f
      induction f with
      | zero => intro lo hi h h2; exact Nat.le_trans h h2
      | succ f ih =>
        intro lo hi h h2
        unfold bis
        split
        · split
          · exact ih _ _ (by omega) h2
          · exact ih _ _ (by omega) (by omega)
        · exact Nat.le_trans h h2
    have := hb xs.length 0 xs.length (Nat.zero_le _) (Nat.le_refl _)
    dsimp only
    split <;> omega
theorem fs_turned_code {t d cd bd md : Addr} {kvs : List (Int × AV)} {tn : Bool} {barred becomes : List Int} {del sq : Bool} {c : Int} (hz : barred.length < 1000) (hz2 : becomes.length < 1000) (h0 : 0 ≤ c) (h1 : c < 2 ^ 40) :
    FS 449 3 [.ref t, .int c] (ttab t d cd bd md kvs tn barred becomes del sq) fun v led => v = .int (turnedC barred becomes del c) ∧ led = ttab t d cd bd md kvs tn barred becomes del sq := by
  refine FS.intro (scf 449) [S "table", S "code"] [S "rank"] [(S "table", some (.ref t)), (S "code", some (.int c)), (S "rank", none)] (fun P => by rfl) (fun P => by kernel_rfl!) (by rfl) rfl (len2 fun _ _ => rfl) (by decide +kernel) (by decide +kernel) (by rfl) (by rfl) (by rfl) (by decide +kernel) rfl ?_ (by decide)
  intro a O hr hh
  have G := g449
  with_reducible
    apply Ex_cons; assumption
    apply Ex_Assign; assumption; (k_dflt rfl)
  with_reducible refine Ev_call O G (by k_allIn) (fun w => by k_dflt kernel_rfl!) (by k_dflt rfl) ?_
  with_reducible
    apply EvL_cons; (k_dflt rfl)
    apply Ev_Attr; (with_unfolding_all rfl)
    apply Ev_loc; assumption; k_allIn
    apply get_at; assumption; k_allIn; k_allIn; (first | exact cls117 | exact cls389 | exact cls579 | exact cls614 | exact cls636 | exact cls276); (k_dflt rfl); k_allIn
    apply EvL_cons; (k_dflt rfl)
    apply Ev_loc; assumption; k_allIn
    apply EvL_nil
  refine OpL_FSe (fs_rank_outside (c := c) hz) O hh (room_of hr rfl) (by decide) (by k_allIn) ?_
  with_reducible
    apply Appd.mk; k_allIn
    apply Stored.mk; k_allIn
    apply Ex_cons; assumption
    apply Ex_If
    apply EvB_Compare; (k_dflt rfl)
    apply Ev_loc; assumption; k_allIn
    apply Ev_int
    apply lt_ii
    apply truthy_b
  generalize hr : rankOut barred c = r
  replace hr := Eq.symm hr
  have hrb := rankOut_lt h1 hz
  rw [← hr] at hrb
  have ht : turnedC barred becomes del c = if r < 0 then -1 else if r < becomes.length then becomes.getD r.toNat 0 else if del then -2 else if becomes.isEmpty then c else becomes.getLastD 0 := by unfold turnedC; rw [← hr]
  refine ⟨fun hb => ?_, fun hb => ?_⟩
  · with_reducible
      apply Ex_cons; assumption
      apply Ex_Return
      apply Ev_globI; assumption; assumption; k_allIn
    refine Has.mk (by k_allIn) ⟨?_, rfl⟩
    rw [ht, if_pos (of_decide_eq_true hb)]
  · have hn := of_decide_eq_false hb
    with_reducible
      apply Ex_nil
      apply Ex_cons; assumption
      apply Ex_If
      apply EvB_Compare; (k_dflt rfl)
      apply Ev_loc; assumption; k_allIn
      apply Ev_callB; assumption; assumption; k_allIn; (k_dflt rfl)
      apply EvL_cons; (k_dflt rfl)
      apply Ev_Attr; (with_unfolding_all rfl)
      apply Ev_loc; assumption; k_allIn
      apply get_at; assumption; k_allIn; k_allIn; (first | exact cls117 | exact cls389 | exact cls579 | exact cls614 | exact cls636 | exact cls276); (k_dflt rfl); k_allIn
      apply EvL_nil
      apply len_list; k_allIn; (k_dflt (simp only [List.length_map, List.length_append, List.length_cons, List.length_nil] <;> omega))
      apply lt_ii
      apply truthy_b
    refine ⟨fun hb => ?_, fun hb => ?_⟩
    · have hl := of_decide_eq_true hb
      rw [List.length_map] at hl
      with_reducible
        apply Ex_cons; assumption
        apply Ex_Return
        apply Ev_Sub
        apply Ev_Attr; (with_unfolding_all rfl)
        apply Ev_loc; assumption; k_allIn
        apply get_at; assumption; k_allIn; k_allIn; (first | exact cls117 | exact cls389 | exact cls579 | exact cls614 | exact cls636 | exact cls276); (k_dflt rfl); k_allIn
        apply Ev_loc; assumption; k_allIn
      refine sub_list (av := .int (becomes.getD r.toNat 0)) (by k_allIn) (by omega) (by omega) (lst_get (by omega)) (by intro _; with_unfolding_all rfl) ?_
      refine Has.mk (by k_allIn) ⟨?_, rfl⟩
      rw [ht, if_neg hn, if_pos hl]
    · have hl := of_decide_eq_false hb
      rw [List.length_map] at hl
      with_reducible
        apply Ex_nil
        apply Ex_cons; assumption
        apply Ex_If
        apply EvB_plain; (k_dflt rfl)
        apply Ev_Attr; (with_unfolding_all rfl)
        apply Ev_loc; assumption; k_allIn
        apply get_at; assumption; k_allIn; k_allIn; (first | exact cls117 | exact cls389 | exact cls579 | exact cls614 | exact cls636 | exact cls276); (k_dflt rfl); k_allIn
        apply truthy_b
      refine ⟨fun hb => ?_, fun hb => ?_⟩
      · subst hb
        with_reducible
          apply Ex_cons; assumption
          apply Ex_Return
          apply Ev_globI; assumption; assumption; k_allIn
        refine Has.mk (by k_allIn) ⟨?_, rfl⟩
        rw [ht, if_neg hn, if_neg hl, if_pos rfl]
      · subst hb
        with_reducible
          apply Ex_nil
          apply Ex_cons; assumption
          apply Ex_If
          apply EvB_Compare; (k_dflt rfl)
          apply Ev_Attr; (with_unfolding_all rfl)
          apply Ev_loc; assumption; k_allIn
          apply get_at; assumption; k_allIn; k_allIn; (first | exact cls117 | exact cls389 | exact cls579 | exact cls614 | exact cls636 | exact cls276); (k_dflt rfl); k_allIn
          apply Ev_List
          apply EvL_nil
          apply new_list; assumption; (k_dflt exact Nat.le_of_ble_eq_true rfl); intro _
          apply eq_nil; assumption; k_allIn; k_allIn
          apply truthy_b
        refine ⟨fun hb => ?_, fun hb => ?_⟩
        · with_reducible
            apply Ex_cons; assumption
            apply Ex_Return
            apply Ev_loc; assumption; k_allIn
          refine Has.mk (by k_allIn) ⟨?_, rfl⟩
          rw [ht, if_neg hn, if_neg hl, if_neg (by decide), if_pos (by simpa using hb)]
        · have hne : becomes ≠ [] := by rintro rfl; cases hb
          with_reducible
            apply Ex_nil
            apply Ex_cons; assumption
            apply Ex_Return
            apply Ev_Sub
            apply Ev_Attr; (with_unfolding_all rfl)
            apply Ev_loc; assumption; k_allIn
            apply get_at; assumption; k_allIn; k_allIn; (first | exact cls117 | exact cls389 | exact cls579 | exact cls614 | exact cls636 | exact cls276); (k_dflt rfl); k_allIn
            apply Ev_BinOp
            apply Ev_callB; assumption; assumption; k_allIn; (k_dflt rfl)
            apply EvL_cons; (k_dflt rfl)
            apply Ev_Attr; (with_unfolding_all rfl)
            apply Ev_loc; assumption; k_allIn
            apply get_at; assumption; k_allIn; k_allIn; (first | exact cls117 | exact cls389 | exact cls579 | exact cls614 | exact cls636 | exact cls276); (k_dflt rfl); k_allIn
            apply EvL_nil
            apply len_list; k_allIn; (k_dflt (simp only [List.length_map, List.length_append, List.length_cons, List.length_nil] <;> omega))
            apply Ev_int
            apply sub_ii
          refine sub_list (av := .int (becomes.getLastD 0)) (by k_allIn) ?_ ?_ ?_ (by intro _; with_unfolding_all rfl) ?_
          · rw [List.length_map]; have := List.length_pos_iff.mpr hne; omega
          · rw [List.length_map]; omega
          · rw [List.length_map]
            have h1 : ((becomes.length : Int) - 1).toNat = becomes.length - 1 := by omega
            rw [h1, List.getElem?_map]
            have h2 : becomes[becomes.length - 1]? = some (becomes.getLastD 0) := by
              rw [← List.getLast?_eq_getElem?]
              cases becomes with
              | nil => exact absurd rfl hne
              | cons x xs => rw [List.getLast?_cons, List.getLastD_cons, List.getLastD_eq_getLast?]
            rw [h2]; rfl
          refine Has.mk (by k_allIn) ⟨?_, rfl⟩
          rw [ht, if_neg hn, if_neg hl, if_neg (by decide), if_neg (by simpa using hne)]
theorem g456 : GOk (scf 456) [(S "turned_code", .ref 449), (S "KEPT_SIGN", .int (-1) 713)] := .cons (by decide +kernel) gl_turned_code (.cons (by decide +kernel) gl_KEPT_SIGN .nil)
noncomputable def plainC (kvs : List (Int × Int)) (c : Int) : Int := (kvs.lookup c).getD (-1)
noncomputable abbrev avs (kvs : List (Int × Int)) : List (Int × AV) := kvs.map fun p => (p.1, .int p.2)
theorem avs_look (kvs : List (Int × Int)) (c : Int) : ((avs kvs).lookup c).getD (.int (-1)) = .int (plainC kvs c) := by
  unfold plainC
  induction kvs with
  | nil => rfl
  | cons p r ih =>
    show (((p.1, AV.int p.2) :: avs r).lookup c).getD _ = _
    rw [List.lookup_cons, List.lookup_cons]
    cases c == p.1
    · exact ih
    · rfl
noncomputable def codeC (turned : Bool) (kvs : List (Int × Int)) (barred becomes : List Int) (del : Bool) (c : Int) : Int := if turned then turnedC barred becomes del c else plainC kvs c
theorem fs_trans_code {t d cd bd md : Addr} {kvs : List (Int × Int)} {tn : Bool} {barred becomes : List Int} {del sq : Bool} {c : Int} (hz : barred.length < 1000) (hz2 : becomes.length < 1000) (h0 : 0 ≤ c) (h1 : c < 2 ^ 40) :
    FS 456 4 [.ref t, .int c] (ttab t d cd bd md (avs kvs) tn barred becomes del sq) fun v led => v = .int (codeC tn kvs barred becomes del c) ∧ led = ttab t d cd bd md (avs kvs) tn barred becomes del sq := by
  refine FS.intro (scf 456) [S "table", S "code"] [] [(S "table", some (.ref t)), (S "code", some (.int c))] (fun P => by rfl) (fun P => by kernel_rfl!) (by rfl) rfl (len2 fun _ _ => rfl) (by decide +kernel) (by decide +kernel) (by rfl) (by rfl) (by rfl) (by decide +kernel) rfl ?_ (by decide)
  intro a O hr hh
  have G := g456
  with_reducible
    apply Ex_cons; assumption
    apply Ex_If
    apply EvB_plain; (k_dflt rfl)
    apply Ev_Attr; (with_unfolding_all rfl)
    apply Ev_loc; assumption; k_allIn
    apply get_at; assumption; k_allIn; k_allIn; (first | exact cls117 | exact cls389 | exact cls579 | exact cls614 | exact cls636 | exact cls276); (k_dflt rfl); k_allIn
    apply truthy_b
  refine ⟨fun hb => ?_, fun hb => ?_⟩
  · subst hb
    with_reducible
      apply Ex_cons; assumption
      apply Ex_Return
    with_reducible refine Ev_call O G (by k_allIn) (fun w => by k_dflt kernel_rfl!) (by k_dflt rfl) ?_
    with_reducible
      apply EvL_cons; (k_dflt rfl)
      apply Ev_loc; assumption; k_allIn
      apply EvL_cons; (k_dflt rfl)
      apply Ev_loc; assumption; k_allIn
      apply EvL_nil
    refine OpL_FSe (fs_turned_code hz hz2 h0 h1) O hh (room_of hr rfl) (by decide) (by k_allIn) ?_
    with_reducible
      apply Appd.mk; k_allIn
    exact Has.mk (by k_allIn) ⟨rfl, rfl⟩
  · subst hb
    with_reducible
      apply Ex_nil
      apply Ex_cons; assumption
      apply Ex_Return
    with_reducible refine Ev_meth (by with_unfolding_all rfl) (by k_dflt rfl) ?_
    with_reducible
      apply Ev_Attr; (with_unfolding_all rfl)
      apply Ev_loc; assumption; k_allIn
      apply get_at; assumption; k_allIn; k_allIn; (first | exact cls117 | exact cls389 | exact cls579 | exact cls614 | exact cls636 | exact cls276); (k_dflt rfl); k_allIn
      apply MethA.mk; apply m_dget; k_allIn
      apply EvL_cons; (k_dflt rfl)
      apply Ev_loc; assumption; k_allIn
      apply EvL_cons; (k_dflt rfl)
      apply Ev_globI; assumption; assumption; k_allIn
      apply EvL_nil
    refine get_dI (by k_allIn) ?_
    rw [avs_look]
    exact Has.mk (by k_allIn) ⟨rfl, rfl⟩


/-! ## a text run through -/
noncomputable abbrev chrS (k : Int) : Str := ⟨#[k.toNat]⟩
noncomputable abbrev RS := List Str × Int × Int
noncomputable def stepR (f : Int → Int) (sq : Bool) (st : RS) (c : Nat) : RS :=
  let k := f c
  if k == -1 then (st.1 ++ [⟨#[c]⟩], st.2.1, -1) else if k == -2 || (sq && k == st.2.2) then (st.1, st.2.1 + 1, st.2.2) else (st.1 ++ [chrS k], st.2.1 + 1, k)
noncomputable def runS (f : Int → Int) (sq : Bool) (x : List Nat) : RS := x.foldl (stepR f sq) ([], 0, -1)
theorem runS_snoc {f : Int → Int} {sq : Bool} {x : List Nat} {i c : Nat} (h : x[i]? = some c) : runS f sq (x.take (i + 1)) = stepR f sq (runS f sq (x.take i)) c := by
  unfold runS
  rw [List.take_add_one, h, Option.toList_some, List.foldl_append]; rfl
theorem runS_len {f : Int → Int} {sq : Bool} (x : List Nat) : (runS f sq x).1.length ≤ x.length := by
  have key : ∀ (x : List Nat) (st : RS), (x.foldl (stepR f sq) st).1.length ≤ st.1.length + x.length := by
    intro x
    induction x with
    | nil => intro st; simp
    | cons c r ih =>
      intro st
      rw [List.foldl_cons]
      refine Nat.le_trans (ih _) ?_
      have : (stepR f sq st c).1.length ≤ st.1.length + 1 := by
        unfold stepR
        dsimp only
        split
        · simp
        · split <;> simp
      rw [List.length_cons]; omega
  have := key x ([], 0, -1)
  simpa [runS] using this
theorem g463 : GOk (scf 463) [(S "trans_code", .ref 456), (S "ord", .builtin "ord"), (S "KEPT_SIGN", .int (-1) 713), (S "DROPPED_SIGN", .int (-2) 716), (S "chr", .builtin "chr")] := .cons (by decide +kernel) gl_trans_code (.cons (by decide +kernel) gl_ord (.cons (by decide +kernel) gl_KEPT_SIGN (.cons (by decide +kernel) gl_DROPPED_SIGN (.cons (by decide +kernel) gl_chr .nil))))
theorem sum_one : ∀ (ys : List Str), (∀ y ∈ ys, y.length = 1) → (ys.map (·.length)).sum = ys.length
  | [], _ => rfl
  | y :: ys, h => by
    rw [List.map_cons, List.sum_cons, sum_one ys (fun z hz => h z (.tail _ hz)), h y (.head _), List.length_cons]; omega
theorem runS_one {f : Int → Int} {sq : Bool} (x : List Nat) : ∀ y ∈ (runS f sq x).1, y.length = 1 := by
  have key : ∀ (x : List Nat) (st : RS), (∀ y ∈ st.1, y.length = 1) → ∀ y ∈ (x.foldl (stepR f sq) st).1, y.length = 1 := by
    intro x
    induction x with
    | nil => intro st h; exact h
    | cons c r ih =>
      intro st h
      rw [List.foldl_cons]
      refine ih _ fun y hy => ?_
      unfold stepR at hy
      dsimp only at hy
      split at hy
      · rcases List.mem_append.mp hy with hy | hy
        · exact h y hy
        · rw [List.mem_singleton.mp hy]; rfl
      · split at hy
        · exact h y hy
        · rcases List.mem_append.mp hy with hy | hy
          · exact h y hy
          · rw [List.mem_singleton.mp hy]; rfl
  exact key x _ fun y hy => nomatch hy
theorem fs_run_trans {t d cd bd md : Addr} {kvs : List (Int × Int)} {tn : Bool} {barred becomes : List Int} {del sq : Bool} {x : Str} (hz : barred.length < 1000) (hz2 : becomes.length < 1000) (hx : x.cps.toList.length ≤ 1000) (hc : ∀ c ∈ x.cps.toList, c < 2 ^ 30)
    (hf : ∀ c ∈ x.cps.toList, let k := codeC tn kvs barred becomes del c; k = -1 ∨ k = -2 ∨ (0 ≤ k ∧ k ≤ 1114111)) :
    FS 463 5 [.ref t, .str x] (ttab t d cd bd md (avs kvs) tn barred becomes del sq) fun v led => v = .tup [.str (Txt.join (S "") (runS (codeC tn kvs barred becomes del) sq x.cps.toList).1), .int (runS (codeC tn kvs barred becomes del) sq x.cps.toList).2.1] ∧ led = ttab t d cd bd md (avs kvs) tn barred becomes del sq := by
  refine FS.intro (scf 463) [S "table", S "text"] [S "out", S "count", S "last", S "sign", S "code"] [(S "table", some (.ref t)), (S "text", some (.str x)), (S "out", none), (S "count", none), (S "last", none), (S "sign", none), (S "code", none)] (fun P => by rfl) (fun P => by kernel_rfl!) (by rfl) rfl (len2 fun _ _ => rfl) (by decide +kernel) (by decide +kernel) (by rfl) (by rfl) (by rfl) (by decide +kernel) rfl ?_ (by decide)
  intro a O hr hh
  have G := g463
  obtain ⟨F, hF⟩ : ∃ F, F = codeC tn kvs barred becomes del := ⟨_, rfl⟩
  rw [← hF] at hf ⊢
  with_reducible
    apply Ex_cons; assumption
    apply Ex_Assign; assumption; (k_dflt rfl)
    apply Ev_List
    apply EvL_nil
    apply new_list; assumption; (k_dflt exact Nat.le_of_ble_eq_true rfl); intro _
    apply Stored.mk; k_allIn
    apply Ex_cons; assumption
    apply Ex_Assign; assumption; (k_dflt rfl)
    apply Ev_int
    apply Stored.mk; k_allIn
    apply Ex_cons; assumption
    apply Ex_Assign; assumption; (k_dflt rfl)
    apply Ev_UnaryOp
    apply Ev_int
    apply neg_i
    apply Stored.mk; k_allIn
    apply Ex_cons; assumption
    apply Ex_For; assumption; (intro _; k_dflt rfl)
    apply Ev_loc; assumption; k_allIn
  rename_i od
  let J : Nat → Loc → Led → Prop := fun i loc led => ∃ sg cg, loc = [(S "table", some (.ref t)), (S "text", some (.str x)), (S "out", some (.ref od)), (S "count", some (.int (runS F sq (x.cps.toList.take i)).2.1)), (S "last", some (.int (runS F sq (x.cps.toList.take i)).2.2)), (S "sign", sg), (S "code", cg)] ∧
    led = (od, .list ((runS F sq (x.cps.toList.take i)).1.map .str)) :: ttab t d cd bd md (avs kvs) tn barred becomes del sq
  have fin : ∀ {i : Nat} {o : List Str} {n l : Int} {sg cg : Option AV} {led rest : Led}, runS F sq (x.cps.toList.take i) = (o, n, l) → PickO led ((od, .list (o.map .str)) :: ttab t d cd bd md (avs kvs) tn barred becomes del sq) rest →
      Has led (J i [(S "table", some (.ref t)), (S "text", some (.str x)), (S "out", some (.ref od)), (S "count", some (.int n)), (S "last", some (.int l)), (S "sign", sg), (S "code", cg)]) := fun e p => Has.mk p ⟨_, _, by rw [e], by rw [e]⟩
  refine ForA.mk (signs x) [] _ J .nil (iter_str O hh) (fin (o := []) rfl (show PickO ((od, .list []) :: ttab t d cd bd md (avs kvs) tn barred becomes del sq) ((od, .list []) :: ttab t d cd bd md (avs kvs) tn barred becomes del sq) [] from by k_allIn)) ?_ ?_
  · rintro h i av loc led O _ hav ⟨sg, cg, rfl, rfl⟩
    obtain ⟨c, hci, rfl⟩ : ∃ c, x.cps.toList[i]? = some c ∧ av = .str ⟨#[c]⟩ := by
      unfold signs at hav
      rw [List.getElem?_map] at hav
      obtain ⟨c, e, rfl⟩ := Option.map_eq_some_iff.mp hav
      exact ⟨c, e, rfl⟩
    have hmem := List.mem_of_getElem? hci
    have hsn := runS_snoc (f := F) (sq := sq) hci
    obtain ⟨st, hst⟩ : ∃ st, st = runS F sq (x.cps.toList.take i) := ⟨_, rfl⟩
    have hsl : st.1.length ≤ 1000 := by
      rw [hst]; exact Nat.le_trans (runS_len _) (Nat.le_trans (List.length_take_le' ..) hx)
    rw [← hst] at hsn ⊢
    have hap : (st.1.map AV.str).length ≤ 1000000 := by rw [List.length_map]; exact Nat.le_trans hsl (by decide)
    have em : ∀ y : Str, st.1.map AV.str ++ [.str y] = (st.1 ++ [y]).map .str := fun y => by rw [List.map_append]; rfl
    with_reducible
      apply asn_name; assumption; k_allIn
      apply Ex_cons; assumption
      apply Ex_Assign; assumption; (k_dflt rfl)
    with_reducible refine Ev_call O G (by k_allIn) (fun w => by k_dflt kernel_rfl!) (by k_dflt rfl) ?_
    with_reducible
      apply EvL_cons; (k_dflt rfl)
      apply Ev_loc; assumption; k_allIn
      apply EvL_cons; (k_dflt rfl)
      apply Ev_callB; assumption; assumption; k_allIn; (k_dflt rfl)
      apply EvL_cons; (k_dflt rfl)
      apply Ev_loc; assumption; k_allIn
      apply EvL_nil
      apply ord_s
      apply EvL_nil
    refine OpL_FSe (fs_trans_code hz hz2 (Int.natCast_nonneg c) (by have := hc c hmem; omega)) O hh (room_of hr rfl) (by decide) (by k_allIn) ?_
    rw [← hF]
    have hk := hf c hmem
    dsimp only at hk
    unfold stepR at hsn
    dsimp only at hsn
    obtain ⟨k, hk0⟩ : ∃ k, k = F c := ⟨_, rfl⟩
    rw [← hk0] at hk hsn ⊢
    with_reducible
      apply Appd.mk; k_allIn
      apply Stored.mk; k_allIn
      apply Ex_cons; assumption
      apply Ex_If
      apply EvB_Compare; (k_dflt rfl)
      apply Ev_loc; assumption; k_allIn
      apply Ev_globI; assumption; assumption; k_allIn
      apply eq_ii
      apply truthy_b
    refine ⟨fun hb => ?_, fun hb => ?_⟩
    · rw [if_pos hb] at hsn
      with_reducible
        apply Ex_cons; assumption
        apply Ex_Expr; (k_dflt rfl); (k_dflt rfl)
      with_reducible refine Ev_meth (by with_unfolding_all rfl) (by k_dflt rfl) ?_
      with_reducible
        apply Ev_loc; assumption; k_allIn
        apply MethA.mk; apply m_append; k_allIn
        apply EvL_cons; (k_dflt rfl)
        apply Ev_loc; assumption; k_allIn
        apply EvL_nil
        apply append_l; k_allIn; k_allIn; assumption
        apply Ex_cons; assumption
        apply Ex_Assign; assumption; (k_dflt rfl)
        apply Ev_UnaryOp
        apply Ev_int
        apply neg_i
        apply Stored.mk; k_allIn
        apply Ex_cons; assumption
        apply Ex_Continue
      rw [em]
      exact fin hsn (by k_allIn)
    · have hne : k ≠ -1 := beq_eq_false_iff_ne.mp hb
      rw [if_neg (by rw [hb]; decide)] at hsn
      with_reducible
        apply Ex_nil
        apply Ex_cons; assumption
        apply Ex_AugAssign; assumption; k_allIn
        apply Ev_int
        apply iadd_ii
        apply Stored.mk; k_allIn
        apply Ex_cons; assumption
        apply Ex_If
        apply EvB_BoolOp
        apply any_cons
        apply EvB_Compare; (k_dflt rfl)
        apply Ev_loc; assumption; k_allIn
        apply Ev_globI; assumption; assumption; k_allIn
        apply eq_ii
        apply truthy_b
      have skip : (k == -2 || (sq && k == st.2.2)) = true → runS F sq (x.cps.toList.take (i + 1)) = (st.1, st.2.1 + 1, st.2.2) := fun e => by rw [if_pos e] at hsn; exact hsn
      have take : (k == -2 || (sq && k == st.2.2)) = false → runS F sq (x.cps.toList.take (i + 1)) = (st.1 ++ [chrS k], st.2.1 + 1, k) := fun e => by rw [if_neg (by rw [e]; decide)] at hsn; exact hsn
      have more : (k == -2) = false → 0 ≤ k ∧ k ≤ 1114111 := fun e => by
        rcases hk with h | h | h
        · exact absurd h hne
        · exact absurd h (beq_eq_false_iff_ne.mp e)
        · exact h
      refine ⟨fun hb => ?_, fun hb => ?_⟩
      · with_reducible
          refine Two.t rfl ?_
          apply Ex_cons; assumption
          apply Ex_Continue
        exact fin (skip (by rw [hb]; rfl)) (by k_allIn)
      · have hm := more hb
        with_reducible
          apply any_cons
          apply EvB_BoolOp
          apply all_cons
          apply EvB_plain; (k_dflt rfl)
          apply Ev_Attr; (with_unfolding_all rfl)
          apply Ev_loc; assumption; k_allIn
          apply get_at; assumption; k_allIn; k_allIn; (first | exact cls117 | exact cls389 | exact cls579 | exact cls614 | exact cls636 | exact cls276); (k_dflt rfl); k_allIn
          apply truthy_b
        refine ⟨fun hb2 => ?_, fun hb2 => ?_⟩
        · subst hb2
          with_reducible
            apply all_cons
            apply EvB_Compare; (k_dflt rfl)
            apply Ev_loc; assumption; k_allIn
            apply Ev_loc; assumption; k_allIn
            apply eq_ii
            apply truthy_b
          refine ⟨fun hb3 => ?_, fun hb3 => ?_⟩
          · with_reducible
              apply all_nil
              refine Two.t rfl ?_
              refine Two.t rfl ?_
              apply Ex_cons; assumption
              apply Ex_Continue
            exact fin (skip (by rw [hb, hb3]; rfl)) (by k_allIn)
          · with_reducible
              refine Two.f rfl ?_
              apply any_nil
              refine Two.f rfl ?_
              apply Ex_nil
              apply Ex_cons; assumption
              apply Ex_Expr; (k_dflt rfl); (k_dflt rfl)
            with_reducible refine Ev_meth (by with_unfolding_all rfl) (by k_dflt rfl) ?_
            with_reducible
              apply Ev_loc; assumption; k_allIn
              apply MethA.mk; apply m_append; k_allIn
              apply EvL_cons; (k_dflt rfl)
              apply Ev_callB; assumption; assumption; k_allIn; (k_dflt rfl)
              apply EvL_cons; (k_dflt rfl)
              apply Ev_loc; assumption; k_allIn
              apply EvL_nil
            refine chr_i hm.1 hm.2 ?_
            with_reducible
              apply EvL_nil
              apply append_l; k_allIn; k_allIn; assumption
              apply Ex_cons; assumption
              apply Ex_Assign; assumption; (k_dflt rfl)
              apply Ev_loc; assumption; k_allIn
              apply Stored.mk; k_allIn
              apply Ex_nil
            rw [em]
            exact fin (take (by rw [hb, hb3]; rfl)) (by k_allIn)
        · subst hb2
          with_reducible
            refine Two.f rfl ?_
            apply any_nil
            refine Two.f rfl ?_
            apply Ex_nil
            apply Ex_cons; assumption
            apply Ex_Expr; (k_dflt rfl); (k_dflt rfl)
          with_reducible refine Ev_meth (by with_unfolding_all rfl) (by k_dflt rfl) ?_
          with_reducible
            apply Ev_loc; assumption; k_allIn
            apply MethA.mk; apply m_append; k_allIn
            apply EvL_cons; (k_dflt rfl)
            apply Ev_callB; assumption; assumption; k_allIn; (k_dflt rfl)
            apply EvL_cons; (k_dflt rfl)
            apply Ev_loc; assumption; k_allIn
            apply EvL_nil
          refine chr_i hm.1 hm.2 ?_
          with_reducible
            apply EvL_nil
            apply append_l; k_allIn; k_allIn; assumption
            apply Ex_cons; assumption
            apply Ex_Assign; assumption; (k_dflt rfl)
            apply Ev_loc; assumption; k_allIn
            apply Stored.mk; k_allIn
            apply Ex_nil
          rw [em]
          exact fin (take (by rw [hb]; rfl)) (by k_allIn)
  · rintro loc led ⟨sg, cg, rfl, rfl⟩
    have hl : x.cps.toList.take (signs x).length = x.cps.toList := by unfold signs; rw [List.length_map, List.take_length]
    rw [hl]
    with_reducible
      apply Appd.mk; k_allIn
      apply Ex_cons; assumption
      apply Ex_Return
      apply Ev_Tuple
      apply EvL_cons; (k_dflt rfl)
    with_reducible refine Ev_meth (by with_unfolding_all rfl) (by k_dflt rfl) ?_
    with_reducible
      apply Ev_str
      apply MethA.mk; apply m_join
      apply EvL_cons; (k_dflt rfl)
      apply Ev_loc; assumption; k_allIn
      apply EvL_nil
    refine join_s (by k_allIn) (by decide) ?_ ?_
    · rw [sum_one _ (runS_one _)]
      have := runS_len (f := F) (sq := sq) x.cps.toList
      omega
    with_reducible
      apply EvL_cons; (k_dflt rfl)
      apply Ev_loc; assumption; k_allIn
      apply EvL_nil
      apply new_tuple; (k_dflt exact Nat.le_of_ble_eq_true rfl)
    exact Has.mk (by k_allIn) ⟨rfl, rfl⟩


/-! ## the tables -/
theorem g421 : GOk (scf 421) [(S "range", .type "range"), (S "len", .builtin "len"), (S "DROPPED_SIGN", .int (-2) 716)] := .cons (by decide +kernel) gl_range (.cons (by decide +kernel) gl_len (.cons (by decide +kernel) gl_DROPPED_SIGN .nil))
/-- the table of sources from place i on -/
noncomputable def plainStep (sources becomes : List Int) (del : Bool) (kvs : List (Int × Int)) (i : Nat) : List (Int × Int) :=
  let c := sources.getD i 0
  if (kvs.lookup c).isSome then kvs else kvs ++ [(c, if i < becomes.length then becomes.getD i 0 else if del then -2 else if becomes.isEmpty then c else becomes.getLastD 0)]
noncomputable def plainT (sources becomes : List Int) (del : Bool) : Nat → List (Int × Int)
  | 0 => []
  | n + 1 => plainStep sources becomes del (plainT sources becomes del n) n
theorem plainT_len (sources becomes : List Int) (del : Bool) : ∀ n, (plainT sources becomes del n).length ≤ n
  | 0 => Nat.le_refl _
  | n + 1 => by
    have := plainT_len sources becomes del n
    unfold plainT plainStep
    dsimp only
    split
    · omega
    · rw [List.length_append]; simp; omega
theorem avs_some (kvs : List (Int × Int)) (c : Int) : ((avs kvs).lookup c).isSome = (kvs.lookup c).isSome := by
  induction kvs with
  | nil => rfl
  | cons p r ih =>
    show (((p.1, AV.int p.2) :: avs r).lookup c).isSome = _
    rw [List.lookup_cons, List.lookup_cons]
    cases c == p.1
    · exact ih
    · rfl
theorem avs_store {kvs : List (Int × Int)} {c k : Int} (h : (kvs.lookup c).isSome = false) : storedA (avs kvs) c (.int k) = avs (kvs ++ [(c, k)]) := by
  have hn : (avs kvs).any (fun kv => decide (kv.1 = c)) = false := by
    induction kvs with
    | nil => rfl
    | cons p r ih =>
      rw [List.lookup_cons] at h
      cases e : c == p.1 with
      | true => rw [e] at h; cases h
      | false =>
        rw [e] at h
        show (decide (p.1 = c) || (avs r).any _) = false
        rw [ih h, decide_eq_false (fun q => by rw [q] at e; simp at e)]; rfl
  unfold storedA
  rw [if_neg (by rw [hn]; decide)]
  show _ = List.map _ (kvs ++ [(c, k)])
  rw [List.map_append]; rfl
theorem fs_plain_table {sd md : Addr} {sources becomes : List Int} {del : Bool} (hz : sources.length < 1000000) (hz2 : becomes.length < 1000000) :
    FS 421 2 [.ref sd, .ref md, .bool del] [(sd, .list (lst sources)), (md, .list (lst becomes))] fun v led => ∃ cd, v = .ref cd ∧ led = [(cd, .dI (avs (plainT sources becomes del sources.length))), (sd, .list (lst sources)), (md, .list (lst becomes))] := by
  refine FS.intro (scf 421) [S "sources", S "becomes", S "is_deleting"] [S "codes", S "place", S "code"] [(S "sources", some (.ref sd)), (S "becomes", some (.ref md)), (S "is_deleting", some (.bool del)), (S "codes", none), (S "place", none), (S "code", none)] (fun P => by rfl) (fun P => by kernel_rfl!) (by rfl) rfl (len3 fun _ _ _ => rfl) (by decide +kernel) (by decide +kernel) (by rfl) (by rfl) (by rfl) (by decide +kernel) rfl ?_ (by decide)
  intro a O hr hh
  have G := g421
  with_reducible
    apply Ex_cons; assumption
    apply Ex_Assign; assumption; (k_dflt rfl)
    apply Ev_DictE; assumption; intro _
    apply Stored.mk; k_allIn
    apply Ex_cons; assumption
    apply Ex_For; assumption; (intro _; k_dflt rfl)
    apply Ev_callT; assumption; assumption; k_allIn; (k_dflt rfl)
    apply EvL_cons; (k_dflt rfl)
    apply Ev_callB; assumption; assumption; k_allIn; (k_dflt rfl)
    apply EvL_cons; (k_dflt rfl)
    apply Ev_loc; assumption; k_allIn
    apply EvL_nil
    apply len_lst; k_allIn; assumption
    apply EvL_nil
    apply range_1; assumption; intro _
  rename_i cd r
  let J : Nat → Loc → Led → Prop := fun i loc led => ∃ p c, loc = [(S "sources", some (.ref sd)), (S "becomes", some (.ref md)), (S "is_deleting", some (.bool del)), (S "codes", some (.ref cd)), (S "place", p), (S "code", c)] ∧
    led = [(cd, .dI (avs (plainT sources becomes del i))), (sd, .list (lst sources)), (md, .list (lst becomes))]
  have fin : ∀ {i : Nat} {kvs : List (Int × Int)} {p c : Option AV} {led rest : Led}, plainT sources becomes del i = kvs → PickO led [(cd, .dI (avs kvs)), (sd, .list (lst sources)), (md, .list (lst becomes))] rest →
      Has led (J i [(S "sources", some (.ref sd)), (S "becomes", some (.ref md)), (S "is_deleting", some (.bool del)), (S "codes", some (.ref cd)), (S "place", p), (S "code", c)]) := fun e p => Has.mk p ⟨_, _, rfl, by rw [e]⟩
  refine ForA.mk (rng 0 sources.length) [(r, .range 0 sources.length)] [(cd, .dI []), (sd, .list (lst sources)), (md, .list (lst becomes))] J (by k_allIn) (iter_upto O hh hz) (Has.mk (led' := [(cd, .dI []), (sd, .list (lst sources)), (md, .list (lst becomes))]) (by k_allIn) ⟨_, _, rfl, rfl⟩) ?_ ?_
  · rintro h i av loc led O _ hav ⟨p, c, rfl, rfl⟩
    obtain ⟨hi, rfl⟩ := rng_get0 hav
    obtain ⟨kvs, hk⟩ : ∃ kvs, kvs = plainT sources becomes del i := ⟨_, rfl⟩
    obtain ⟨c, hc⟩ : ∃ c, c = sources.getD i 0 := ⟨_, rfl⟩
    have hs : plainT sources becomes del (i + 1) = if (kvs.lookup c).isSome then kvs else kvs ++ [(c, if i < becomes.length then becomes.getD i 0 else if del then -2 else if becomes.isEmpty then c else becomes.getLastD 0)] := by
      show plainStep _ _ _ (plainT _ _ _ i) i = _
      rw [← hk]; unfold plainStep; rw [← hc]
    have hkl : (avs kvs).length ≤ 1000000 := by rw [List.length_map, hk]; exact Nat.le_trans (plainT_len ..) (Nat.le_of_lt (Nat.lt_trans hi hz))
    rw [← hk]
    with_reducible
      apply asn_name; assumption; k_allIn
      apply Ex_cons; assumption
      apply Ex_Assign; assumption; (k_dflt rfl)
      apply Ev_Sub
      apply Ev_loc; assumption; k_allIn
      apply Ev_loc; assumption; k_allIn
    refine sub_nat (by k_allIn) hz hi (by intro _; with_unfolding_all rfl) ?_
    rw [← hc]
    with_reducible
      apply Stored.mk; k_allIn
      apply Ex_cons; assumption
      apply Ex_If
      apply EvB_Compare; (k_dflt rfl)
      apply Ev_loc; assumption; k_allIn
      apply Ev_loc; assumption; k_allIn
      apply in_dI; k_allIn
      apply truthy_b
    rw [avs_some]
    refine ⟨fun hb => ?_, fun hb => ?_⟩
    · rw [if_pos hb] at hs
      with_reducible
        apply Ex_cons; assumption
        apply Ex_Continue
      exact fin hs (by k_allIn)
    · rw [if_neg (by rw [hb]; decide)] at hs
      with_reducible
        apply Ex_nil
        apply Ex_cons; assumption
        apply Ex_If
        apply EvB_Compare; (k_dflt rfl)
        apply Ev_loc; assumption; k_allIn
        apply Ev_callB; assumption; assumption; k_allIn; (k_dflt rfl)
        apply EvL_cons; (k_dflt rfl)
        apply Ev_loc; assumption; k_allIn
        apply EvL_nil
        apply len_lst; k_allIn; assumption
        apply lt_ii
        apply truthy_b
      refine ⟨fun hb2 => ?_, fun hb2 => ?_⟩
      · have hl := Int.ofNat_lt.mp (of_decide_eq_true hb2)
        rw [if_pos hl] at hs
        with_reducible
          apply Ex_cons; assumption
          apply Ex_AssignSub; (k_dflt rfl)
          apply Ev_Sub
          apply Ev_loc; assumption; k_allIn
          apply Ev_loc; assumption; k_allIn
        refine sub_nat (by k_allIn) hz2 hl (by intro _; with_unfolding_all rfl) ?_
        with_reducible
          apply Ev_loc; assumption; k_allIn
          apply Ev_loc; assumption; k_allIn
        refine set_dI (by k_allIn) (avs_store hb) (by k_allIn) hkl ?_
        with_reducible
          apply Ex_nil
          apply Ex_nil
        exact fin hs (by k_allIn)
      · have hl : ¬ i < becomes.length := fun q => of_decide_eq_false hb2 (Int.ofNat_lt.mpr q)
        rw [if_neg hl] at hs
        with_reducible
          apply Ex_cons; assumption
          apply Ex_If
          apply EvB_plain; (k_dflt rfl)
          apply Ev_loc; assumption; k_allIn
          apply truthy_b
        refine ⟨fun hb3 => ?_, fun hb3 => ?_⟩
        · subst hb3
          rw [if_pos rfl] at hs
          with_reducible
            apply Ex_cons; assumption
            apply Ex_AssignSub; (k_dflt rfl)
            apply Ev_globI; assumption; assumption; k_allIn
            apply Ev_loc; assumption; k_allIn
            apply Ev_loc; assumption; k_allIn
          refine set_dI (by k_allIn) (avs_store hb) (by k_allIn) hkl ?_
          with_reducible
            apply Ex_nil
            apply Ex_nil
            apply Ex_nil
          exact fin hs (by k_allIn)
        · subst hb3
          with_reducible
            apply Ex_cons; assumption
            apply Ex_If
            apply EvB_Compare; (k_dflt rfl)
            apply Ev_loc; assumption; k_allIn
            apply Ev_List
            apply EvL_nil
            apply new_list; assumption; (k_dflt exact Nat.le_of_ble_eq_true rfl); intro _
            apply eq_nil; assumption; k_allIn; k_allIn
            apply truthy_b
          refine ⟨fun hb4 => ?_, fun hb4 => ?_⟩
          · rw [if_neg (by decide), if_pos (by simpa using hb4)] at hs
            with_reducible
              apply Ex_cons; assumption
              apply Ex_AssignSub; (k_dflt rfl)
              apply Ev_loc; assumption; k_allIn
              apply Ev_loc; assumption; k_allIn
              apply Ev_loc; assumption; k_allIn
            refine set_dI (by k_allIn) (avs_store hb) (by k_allIn) hkl ?_
            with_reducible
              apply Ex_nil
              apply Ex_nil
              apply Ex_nil
              apply Ex_nil
            exact fin hs (by k_allIn)
          · have hne : becomes ≠ [] := by rintro rfl; cases hb4
            rw [if_neg (by decide), if_neg (by simpa using hne)] at hs
            with_reducible
              apply Ex_cons; assumption
              apply Ex_AssignSub; (k_dflt rfl)
              apply Ev_Sub
              apply Ev_loc; assumption; k_allIn
              apply Ev_BinOp
              apply Ev_callB; assumption; assumption; k_allIn; (k_dflt rfl)
              apply EvL_cons; (k_dflt rfl)
              apply Ev_loc; assumption; k_allIn
              apply EvL_nil
              apply len_lst; k_allIn; assumption
              apply Ev_int
              apply sub_ii
            refine sub_last (by k_allIn) hz2 hne (by intro _; with_unfolding_all rfl) ?_
            with_reducible
              apply Ev_loc; assumption; k_allIn
              apply Ev_loc; assumption; k_allIn
            refine set_dI (by k_allIn) (avs_store hb) (by k_allIn) hkl ?_
            with_reducible
              apply Ex_nil
              apply Ex_nil
              apply Ex_nil
              apply Ex_nil
            exact fin hs (by k_allIn)
  · rintro loc led ⟨p, c, rfl, rfl⟩
    rw [rng_len]
    with_reducible
      apply Appd.mk; k_allIn
      apply Ex_cons; assumption
      apply Ex_Return
      apply Ev_loc; assumption; k_allIn
    exact Has.mk (led' := [(cd, .dI (avs (plainT sources becomes del sources.length))), (sd, .list (lst sources)), (md, .list (lst becomes))]) (by k_allIn) ⟨cd, rfl, rfl⟩
theorem g428 : GOk (scf 428) [(S "sorted", .builtin "sorted"), (S "len", .builtin "len")] := .cons (by decide +kernel) gl_sorted (.cons (by decide +kernel) gl_len .nil)
/-- each once -/
noncomputable def onceStep (acc : List Int) (c : Int) : List Int := if acc.isEmpty || acc.getLastD 0 != c then acc ++ [c] else acc
noncomputable def onceL (xs : List Int) : List Int := xs.foldl onceStep []
theorem onceL_snoc {x : List Int} {i : Nat} {c : Int} (h : x[i]? = some c) : onceL (x.take (i + 1)) = onceStep (onceL (x.take i)) c := by
  unfold onceL
  rw [List.take_add_one, h, Option.toList_some, List.foldl_append]; rfl
theorem onceL_len (x : List Int) : (onceL x).length ≤ x.length := by
  have key : ∀ (x acc : List Int), (x.foldl onceStep acc).length ≤ acc.length + x.length := by
    intro x
    induction x with
    | nil => intro acc; simp
    | cons c r ih =>
      intro acc
      rw [List.foldl_cons]
      refine Nat.le_trans (ih _) ?_
      have : (onceStep acc c).length ≤ acc.length + 1 := by unfold onceStep; split <;> simp
      rw [List.length_cons]; omega
  have := key x []
  simpa [onceL] using this
theorem fs_sorted_once {sd : Addr} {xs : List Int} (hz : xs.length < 64) :
    FS 428 2 [.ref sd] [(sd, .list (lst xs))] fun v led => ∃ bd ys, ys.Perm xs ∧ ys.Pairwise (· ≤ ·) ∧ v = .ref bd ∧ led = [(bd, .list (lst (onceL ys))), (sd, .list (lst xs))] := by
  refine FS.intro (scf 428) [S "codes"] [S "found", S "code"] [(S "codes", some (.ref sd)), (S "found", none), (S "code", none)] (fun P => by rfl) (fun P => by kernel_rfl!) (by rfl) rfl (len1 fun _ => rfl) (by decide +kernel) (by decide +kernel) (by rfl) (by rfl) (by rfl) (by decide +kernel) rfl ?_ (by decide)
  intro a O hr hh
  have G := g428
  with_reducible
    apply Ex_cons; assumption
    apply Ex_Assign; assumption; (k_dflt rfl)
    apply Ev_List
    apply EvL_nil
    apply new_list; assumption; (k_dflt exact Nat.le_of_ble_eq_true rfl); intro _
    apply Stored.mk; k_allIn
    apply Ex_cons; assumption
    apply Ex_For; assumption; (intro _; k_dflt rfl)
    apply Ev_callB; assumption; assumption; k_allIn; (k_dflt rfl)
    apply EvL_cons; (k_dflt rfl)
    apply Ev_loc; assumption; k_allIn
    apply EvL_nil
  rename_i od
  refine sorted_l O (by k_allIn) hz fun r ys hp hs => ?_
  have hyl : ys.length < 64 := by rw [hp.length_eq]; exact hz
  let J : Nat → Loc → Led → Prop := fun i loc led => ∃ c, loc = [(S "codes", some (.ref sd)), (S "found", some (.ref od)), (S "code", c)] ∧ led = [(od, .list (lst (onceL (ys.take i)))), (sd, .list (lst xs))]
  have fin : ∀ {i : Nat} {os : List Int} {c : Option AV} {led rest : Led}, onceL (ys.take i) = os → PickO led [(od, .list (lst os)), (sd, .list (lst xs))] rest → Has led (J i [(S "codes", some (.ref sd)), (S "found", some (.ref od)), (S "code", c)]) := fun e p => Has.mk p ⟨_, rfl, by rw [e]⟩
  refine ForA.mk (lst ys) [(r, .list (lst ys))] [(od, .list []), (sd, .list (lst xs))] J (by k_allIn) (iter_list O hh) (Has.mk (led' := [(od, .list []), (sd, .list (lst xs))]) (by k_allIn) ⟨_, rfl, rfl⟩) ?_ ?_
  · rintro h i av loc led O _ hav ⟨p, rfl, rfl⟩
    obtain ⟨c, hci, rfl⟩ : ∃ c, ys[i]? = some c ∧ av = .int c := by
      rw [List.getElem?_map] at hav
      obtain ⟨c, e, rfl⟩ := Option.map_eq_some_iff.mp hav
      exact ⟨c, e, rfl⟩
    have hsn := onceL_snoc hci
    obtain ⟨acc, ha⟩ : ∃ acc, acc = onceL (ys.take i) := ⟨_, rfl⟩
    have hal : acc.length < 1000000 := by
      rw [ha]; exact Nat.lt_of_le_of_lt (onceL_len _) (Nat.lt_of_le_of_lt (List.length_take_le' ..) (Nat.lt_trans hyl (by decide)))
    have hap : (lst acc).length ≤ 1000000 := by rw [List.length_map]; exact Nat.le_of_lt hal
    have em : lst acc ++ [.int c] = lst (acc ++ [c]) := (List.map_append (f := AV.int) (l₁ := acc) (l₂ := [c])).symm
    rw [← ha] at hsn ⊢
    with_reducible
      apply asn_name; assumption; k_allIn
      apply Ex_cons; assumption
      apply Ex_If
      apply EvB_BoolOp
      apply any_cons
      apply EvB_Compare; (k_dflt rfl)
      apply Ev_loc; assumption; k_allIn
      apply Ev_List
      apply EvL_nil
      apply new_list; assumption; (k_dflt exact Nat.le_of_ble_eq_true rfl); intro _
      apply eq_nil; assumption; k_allIn; k_allIn
      apply truthy_b
    have add : (acc.isEmpty || acc.getLastD 0 != c) = true → onceL (ys.take (i + 1)) = acc ++ [c] := fun e => by rw [hsn]; exact if_pos e
    have keep : (acc.isEmpty || acc.getLastD 0 != c) = false → onceL (ys.take (i + 1)) = acc := fun e => by rw [hsn]; exact if_neg (by rw [e]; decide)
    have hem : (lst acc).isEmpty = acc.isEmpty := by cases acc <;> rfl
    rw [hem]
    refine ⟨fun hb => ?_, fun hb => ?_⟩
    · with_reducible
        refine Two.t rfl ?_
        apply Ex_cons; assumption
        apply Ex_Expr; (k_dflt rfl); (k_dflt rfl)
      with_reducible refine Ev_meth (by with_unfolding_all rfl) (by k_dflt rfl) ?_
      with_reducible
        apply Ev_loc; assumption; k_allIn
        apply MethA.mk; apply m_append; k_allIn
        apply EvL_cons; (k_dflt rfl)
        apply Ev_loc; assumption; k_allIn
        apply EvL_nil
        apply append_l; k_allIn; k_allIn; assumption
        apply Ex_nil
        apply Ex_nil
      rw [em]
      exact fin (add (by rw [hb]; rfl)) (by k_allIn)
    · have hne : acc ≠ [] := by rintro rfl; cases hb
      with_reducible
        apply any_cons
        apply EvB_Compare; (k_dflt rfl)
        apply Ev_Sub
        apply Ev_loc; assumption; k_allIn
        apply Ev_BinOp
        apply Ev_callB; assumption; assumption; k_allIn; (k_dflt rfl)
        apply EvL_cons; (k_dflt rfl)
        apply Ev_loc; assumption; k_allIn
        apply EvL_nil
        apply len_lst; k_allIn; assumption
        apply Ev_int
        apply sub_ii
      refine sub_last (by k_allIn) hal hne (by intro _; with_unfolding_all rfl) ?_
      with_reducible
        apply Ev_loc; assumption; k_allIn
        apply ne_ii
        apply truthy_b
      refine ⟨fun hb2 => ?_, fun hb2 => ?_⟩
      · with_reducible
          refine Two.t rfl ?_
          apply Ex_cons; assumption
          apply Ex_Expr; (k_dflt rfl); (k_dflt rfl)
        with_reducible refine Ev_meth (by with_unfolding_all rfl) (by k_dflt rfl) ?_
        with_reducible
          apply Ev_loc; assumption; k_allIn
          apply MethA.mk; apply m_append; k_allIn
          apply EvL_cons; (k_dflt rfl)
          apply Ev_loc; assumption; k_allIn
          apply EvL_nil
          apply append_l; k_allIn; k_allIn; assumption
          apply Ex_nil
          apply Ex_nil
        rw [em]
        exact fin (add (by rw [hb, hb2]; rfl)) (by k_allIn)
      · with_reducible
          apply any_nil
          refine Two.f rfl ?_
          apply Ex_nil
          apply Ex_nil
        exact fin (keep (by rw [hb, hb2]; rfl)) (by k_allIn)
  · rintro loc led ⟨c, rfl, rfl⟩
    have hl : ys.take (lst ys).length = ys := by rw [List.length_map, List.take_length]
    rw [hl]
    with_reducible
      apply Appd.mk; k_allIn
      apply Ex_cons; assumption
      apply Ex_Return
      apply Ev_loc; assumption; k_allIn
    exact Has.mk (led' := [(od, .list (lst (onceL ys))), (sd, .list (lst xs))]) (by k_allIn) ⟨od, ys, hp, hs, rfl, rfl⟩


/-! ## escapes -/
theorem g344 : GOk (scf 344) [(S "len", .builtin "len"), (S "CODE_FIGURES", .str (Str.ofString "0123456789abcdef") 656), (S "min", .builtin "min"), (S "TOP_CODE", .int 1114111 658)] := .cons (by decide +kernel) gl_len (.cons (by decide +kernel) gl_CODE_FIGURES (.cons (by decide +kernel) gl_min (.cons (by decide +kernel) gl_TOP_CODE .nil)))
theorem len63 {x : Str} (h : x.length < 1000000) : (x.length : Int) < 2 ^ 63 := by omega
theorem fs_digits {x : Str} {i : Nat} (hz : x.length < 1000000) (h0 : ∀ j < 3, x.cps.toList[i + j]? = some 48) : FS 344 2 [.str x, .int (i : Int), .int 3, .int 8] [] fun v led => v = .tup [.int 0, .int ((i + 3 : Nat) : Int)] ∧ led = [] := by
  refine FS.intro (scf 344) [S "text", S "at", S "most", S "base"] [S "value", S "end", S "digit"] [(S "text", some (.str x)), (S "at", some (.int (i : Int))), (S "most", some (.int 3)), (S "base", some (.int 8)), (S "value", none), (S "end", none), (S "digit", none)] (fun P => by rfl) (fun P => by kernel_rfl!) (by rfl) rfl (len4 fun _ _ _ _ => rfl) (by decide +kernel) (by decide +kernel) (by rfl) (by rfl) (by rfl) (by decide +kernel) rfl ?_ (by decide)
  intro a O hr hh
  have G := g344
  have hx := len63 hz
  have hl : i + 2 < x.length := by
    have := (List.getElem?_eq_some_iff.mp (h0 2 (by decide))).1
    simpa [Str.length] using this
  with_reducible
    apply Ex_cons; assumption
    apply Ex_Assign; assumption; (k_dflt rfl)
    apply Ev_int
    apply Stored.mk; k_allIn
    apply Ex_cons; assumption
    apply Ex_Assign; assumption; (k_dflt rfl)
    apply Ev_loc; assumption; k_allIn
    apply Stored.mk; k_allIn
    apply Ex_cons; assumption
  refine Ex_While O (fun k loc led => ∃ j d, k = 3 - j ∧ j ≤ 3 ∧ loc = [(S "text", some (.str x)), (S "at", some (.int (i : Int))), (S "most", some (.int 3)), (S "base", some (.int 8)), (S "value", some (.int 0)), (S "end", some (.int ((i + j : Nat) : Int))), (S "digit", d)] ∧ led = []) 3 (Has.mk (led' := []) .nil ⟨0, _, rfl, Nat.zero_le _, rfl, rfl⟩) ?_
  rintro h k loc led O _ ⟨j, d, rfl, hj, rfl, rfl⟩
  with_reducible
    apply EvB_BoolOp
    apply all_cons
    apply EvB_Compare; (k_dflt rfl)
    apply Ev_loc; assumption; k_allIn
    apply Ev_callB; assumption; assumption; k_allIn; (k_dflt rfl)
    apply EvL_cons; (k_dflt rfl)
    apply Ev_loc; assumption; k_allIn
    apply EvL_nil
    apply len_s; assumption
    apply lt_ii
    apply truthy_b
  by_cases hj3 : j = 3
  · subst hj3
    have fin : ∀ {led : Led}, Has led fun led' => (AV.tup [.int 0, .int ((i + 3 : Nat) : Int)] : AV) = .tup [.int 0, .int ((i + 3 : Nat) : Int)] ∧ led' = [] := fun {led} => Has.mk .nil ⟨rfl, rfl⟩
    refine ⟨fun hb => ?_, fun hb => ?_⟩
    · with_reducible
        apply all_cons
        apply EvB_Compare; (k_dflt rfl)
        apply Ev_loc; assumption; k_allIn
        apply Ev_BinOp
        apply Ev_loc; assumption; k_allIn
        apply Ev_loc; assumption; k_allIn
        apply add_ii
        apply lt_ii
        apply truthy_b
      refine .f (decide_eq_false (by omega)) ?_
      with_reducible
        refine Two.f rfl ?_
        apply Ex_cons; assumption
        apply Ex_Return
        apply Ev_Tuple
        apply EvL_cons; (k_dflt rfl)
        apply Ev_loc; assumption; k_allIn
        apply EvL_cons; (k_dflt rfl)
        apply Ev_loc; assumption; k_allIn
        apply EvL_nil
        apply new_tuple; (k_dflt exact Nat.le_of_ble_eq_true rfl)
      exact fin
    · with_reducible
        refine Two.f rfl ?_
        apply Ex_cons; assumption
        apply Ex_Return
        apply Ev_Tuple
        apply EvL_cons; (k_dflt rfl)
        apply Ev_loc; assumption; k_allIn
        apply EvL_cons; (k_dflt rfl)
        apply Ev_loc; assumption; k_allIn
        apply EvL_nil
        apply new_tuple; (k_dflt exact Nat.le_of_ble_eq_true rfl)
      exact fin
  · have hj2 : j < 3 := Nat.lt_of_le_of_ne hj hj3
    refine .t (decide_eq_true (by omega)) ?_
    with_reducible
      apply all_cons
      apply EvB_Compare; (k_dflt rfl)
      apply Ev_loc; assumption; k_allIn
      apply Ev_BinOp
      apply Ev_loc; assumption; k_allIn
      apply Ev_loc; assumption; k_allIn
      apply add_ii
      apply lt_ii
      apply truthy_b
    refine .t (decide_eq_true (by omega)) ?_
    with_reducible
      apply all_nil
      refine Two.t rfl ?_
      apply Ex_cons; assumption
      apply Ex_Assign; assumption; (k_dflt rfl)
    with_reducible refine Ev_meth (by with_unfolding_all rfl) (by k_dflt rfl) ?_
    with_reducible
      apply Ev_globS; assumption; assumption; k_allIn
      apply MethA.mk; apply m_find
      apply EvL_cons; (k_dflt rfl)
    with_reducible refine Ev_meth (by with_unfolding_all rfl) (by k_dflt rfl) ?_
    with_reducible
      apply Ev_Sub
      apply Ev_loc; assumption; k_allIn
      apply Ev_loc; assumption; k_allIn
    refine sub_sn hz (h0 j hj2) (by intro _ _; with_unfolding_all rfl) (by intro _ _; rfl) ?_
    with_reducible
      apply MethA.mk; apply m_lower
      apply EvL_nil
    refine lower_s (by decide) ?_
    with_reducible
      apply EvL_nil
    rw [show Txt.lower ⟨#[48]⟩ = ⟨#[48]⟩ from by decide +kernel]
    refine find_s ?_
    rw [show Txt.find (Str.ofString "0123456789abcdef") ⟨#[48]⟩ = 0 from by decide +kernel]
    with_reducible
      apply Stored.mk; k_allIn
      apply Ex_cons; assumption
      apply Ex_If
      apply EvB_BoolOp
      apply any_cons
      apply EvB_Compare; (k_dflt rfl)
      apply Ev_loc; assumption; k_allIn
      apply Ev_int
      apply lt_ii
      apply truthy_b
      refine Two.f rfl ?_
      apply any_cons
      apply EvB_Compare; (k_dflt rfl)
      apply Ev_loc; assumption; k_allIn
      apply Ev_loc; assumption; k_allIn
      apply ge_ii
      apply truthy_b
      refine Two.f rfl ?_
      apply any_nil
      refine Two.f rfl ?_
      apply Ex_nil
      apply Ex_cons; assumption
      apply Ex_Assign; assumption; (k_dflt rfl)
      apply Ev_callB; assumption; assumption; k_allIn; (k_dflt rfl)
      apply EvL_cons; (k_dflt rfl)
      apply Ev_BinOp
      apply Ev_BinOp
      apply Ev_loc; assumption; k_allIn
      apply Ev_loc; assumption; k_allIn
    refine mul_ii (by decide) (by decide) ?_
    with_reducible
      apply Ev_loc; assumption; k_allIn
      apply add_ii
      apply EvL_cons; (k_dflt rfl)
      apply Ev_BinOp
      apply Ev_globI; assumption; assumption; k_allIn
      apply Ev_int
      apply add_ii
      apply EvL_nil
    refine min_ii O hh ?_
    with_reducible
      apply Stored.mk; k_allIn
      apply Ex_cons; assumption
      apply Ex_AugAssign; assumption; k_allIn
      apply Ev_int
      apply iadd_ii
      apply Stored.mk; k_allIn
      apply Ex_nil
    exact Has.mk .nil ⟨3 - (j + 1), by omega, j + 1, _, rfl, hj2, rfl, rfl⟩


theorem g365 : GOk (scf 365) [(S "SHORT_ESCAPES", .ref 337), (S "digits_value", .ref 344), (S "chr", .builtin "chr"), (S "ord", .builtin "ord")] := .cons (by decide +kernel) gl_SHORT_ESCAPES (.cons (by decide +kernel) gl_digits_value (.cons (by decide +kernel) gl_chr (.cons (by decide +kernel) gl_ord .nil)))
theorem cast3 (i : Nat) : ((i + 1 : Nat) : Int) + 1 = ((i : Int) + 2) := by omega
/-- a sign that stands for itself behind a backslash -/
noncomputable def selfC (c : Nat) : Prop := shortE.lookup ⟨#[c]⟩ = none ∧ c ∉ (S "01234567").cps.toList ∧ c ≠ 120 ∧ c ≠ 111 ∧ c ≠ 78 ∧ c ≠ 99
theorem slice_two {x : Str} {i c : Nat} (hc : x.cps.toList[i + 1]? = some c) : Txt.slice x (some ((i : Int) + 1)) (some ((i : Int) + 2)) = ⟨#[c]⟩ := by
  have := slice_one hc
  rw [cast3] at this
  exact this
theorem fs_escape_self {x : Str} {i c : Nat} (hz : x.length < 1000000) (hc : x.cps.toList[i + 1]? = some c) (hs : selfC c) : FS 365 3 [.str x, .int (i : Int)] [] fun v led => v = .tup [.str ⟨#[c]⟩, .int ((i : Int) + 2)] ∧ led = [] := by
  refine FS.intro (scf 365) [S "text", S "at"] [S "sign", S "value", S "end"] [(S "text", some (.str x)), (S "at", some (.int (i : Int))), (S "sign", none), (S "value", none), (S "end", none)] (fun P => by rfl) (fun P => by kernel_rfl!) (by rfl) rfl (len2 fun _ _ => rfl) (by decide +kernel) (by decide +kernel) (by rfl) (by rfl) (by rfl) (by decide +kernel) rfl ?_ (by decide)
  intro a O hr hh
  have G := g365
  obtain ⟨h1, h2, h3, h4, h5, h6⟩ := hs
  with_reducible
    apply Ex_cons; assumption
    apply Ex_Assign; assumption; (k_dflt rfl)
    apply Ev_SliceS; (intro _ _; k_dflt rfl)
    apply Ev_loc; assumption; k_allIn
    apply ex_str
    apply evP_some
    apply Ev_BinOp
    apply Ev_loc; assumption; k_allIn
    apply Ev_int
    apply add_ii
    apply ex_int
    apply evP_some
    apply Ev_BinOp
    apply Ev_loc; assumption; k_allIn
    apply Ev_int
    apply add_ii
    apply ex_int
  refine ⟨Nat.le_of_lt hz, ?_⟩
  rw [slice_two hc]
  with_reducible
    apply Stored.mk; k_allIn
    apply Ex_cons; assumption
    apply Ex_If
    apply EvB_Compare; (k_dflt rfl)
    apply Ev_loc; assumption; k_allIn
    apply Ev_str
    apply eq_ss
    apply truthy_b
    refine Two.f rfl ?_
    apply Ex_nil
    apply Ex_cons; assumption
    apply Ex_If
    apply EvB_Compare; (k_dflt rfl)
    apply Ev_loc; assumption; k_allIn
    apply Ev_globR; assumption; assumption; k_allIn
  refine short_in O ?_
  rw [h1]
  with_reducible
    apply truthy_b
    refine Two.f rfl ?_
    apply Ex_nil
    apply Ex_cons; assumption
    apply Ex_If
    apply EvB_Compare; (k_dflt rfl)
    apply Ev_loc; assumption; k_allIn
    apply Ev_str
  refine in_ss ?_
  with_reducible
    apply truthy_b
  refine .f (decide_eq_false h2) ?_
  with_reducible
    apply Ex_nil
    apply Ex_cons; assumption
    apply Ex_If
    apply EvB_BoolOp
    apply all_cons
    apply EvB_Compare; (k_dflt rfl)
    apply Ev_loc; assumption; k_allIn
    apply Ev_str
    apply eq_ss
    apply truthy_b
  refine .f (one_ne h3) ?_
  with_reducible
    refine Two.f rfl ?_
    apply Ex_nil
    apply Ex_cons; assumption
    apply Ex_If
    apply EvB_BoolOp
    apply all_cons
    apply EvB_Compare; (k_dflt rfl)
    apply Ev_loc; assumption; k_allIn
    apply Ev_str
    apply eq_ss
    apply truthy_b
  refine .f (one_ne h4) ?_
  with_reducible
    refine Two.f rfl ?_
    apply Ex_nil
    apply Ex_cons; assumption
    apply Ex_If
    apply EvB_Compare; (k_dflt rfl)
    apply Ev_loc; assumption; k_allIn
    apply Ev_str
    apply eq_ss
    apply truthy_b
  refine .f (one_ne h3) ?_
  with_reducible
    apply Ex_nil
    apply Ex_cons; assumption
    apply Ex_If
    apply EvB_BoolOp
    apply all_cons
    apply EvB_Compare; (k_dflt rfl)
    apply Ev_loc; assumption; k_allIn
    apply Ev_str
    apply eq_ss
    apply truthy_b
  refine .f (one_ne h5) ?_
  with_reducible
    refine Two.f rfl ?_
    apply Ex_nil
    apply Ex_cons; assumption
    apply Ex_If
    apply EvB_BoolOp
    apply all_cons
    apply EvB_Compare; (k_dflt rfl)
    apply Ev_loc; assumption; k_allIn
    apply Ev_str
    apply eq_ss
    apply truthy_b
  refine .f (one_ne h5) ?_
  with_reducible
    refine Two.f rfl ?_
    apply Ex_nil
    apply Ex_cons; assumption
    apply Ex_If
    apply EvB_BoolOp
    apply all_cons
    apply EvB_Compare; (k_dflt rfl)
    apply Ev_loc; assumption; k_allIn
    apply Ev_str
    apply eq_ss
    apply truthy_b
  refine .f (one_ne h6) ?_
  with_reducible
    refine Two.f rfl ?_
    apply Ex_nil
    apply Ex_cons; assumption
    apply Ex_Return
    apply Ev_Tuple
    apply EvL_cons; (k_dflt rfl)
    apply Ev_loc; assumption; k_allIn
    apply EvL_cons; (k_dflt rfl)
    apply Ev_BinOp
    apply Ev_loc; assumption; k_allIn
    apply Ev_int
    apply add_ii
    apply EvL_nil
    apply new_tuple; (k_dflt exact Nat.le_of_ble_eq_true rfl)
  exact Has.mk .nil ⟨rfl, rfl⟩
theorem fs_escape_short {x : Str} {i c d : Nat} (hz : x.length < 1000000) (hc : x.cps.toList[i + 1]? = some c) (hs : shortE.lookup ⟨#[c]⟩ = some ⟨#[d]⟩) : FS 365 3 [.str x, .int (i : Int)] [] fun v led => v = .tup [.str ⟨#[d]⟩, .int ((i : Int) + 2)] ∧ led = [] := by
  refine FS.intro (scf 365) [S "text", S "at"] [S "sign", S "value", S "end"] [(S "text", some (.str x)), (S "at", some (.int (i : Int))), (S "sign", none), (S "value", none), (S "end", none)] (fun P => by rfl) (fun P => by kernel_rfl!) (by rfl) rfl (len2 fun _ _ => rfl) (by decide +kernel) (by decide +kernel) (by rfl) (by rfl) (by rfl) (by decide +kernel) rfl ?_ (by decide)
  intro a O hr hh
  have G := g365
  with_reducible
    apply Ex_cons; assumption
    apply Ex_Assign; assumption; (k_dflt rfl)
    apply Ev_SliceS; (intro _ _; k_dflt rfl)
    apply Ev_loc; assumption; k_allIn
    apply ex_str
    apply evP_some
    apply Ev_BinOp
    apply Ev_loc; assumption; k_allIn
    apply Ev_int
    apply add_ii
    apply ex_int
    apply evP_some
    apply Ev_BinOp
    apply Ev_loc; assumption; k_allIn
    apply Ev_int
    apply add_ii
    apply ex_int
  refine ⟨Nat.le_of_lt hz, ?_⟩
  rw [slice_two hc]
  with_reducible
    apply Stored.mk; k_allIn
    apply Ex_cons; assumption
    apply Ex_If
    apply EvB_Compare; (k_dflt rfl)
    apply Ev_loc; assumption; k_allIn
    apply Ev_str
    apply eq_ss
    apply truthy_b
    refine Two.f rfl ?_
    apply Ex_nil
    apply Ex_cons; assumption
    apply Ex_If
    apply EvB_Compare; (k_dflt rfl)
    apply Ev_loc; assumption; k_allIn
    apply Ev_globR; assumption; assumption; k_allIn
  refine short_in O ?_
  rw [hs]
  with_reducible
    apply truthy_b
    refine Two.t rfl ?_
    apply Ex_cons; assumption
    apply Ex_Return
    apply Ev_Tuple
    apply EvL_cons; (k_dflt rfl)
    apply Ev_Sub
    apply Ev_globR; assumption; assumption; k_allIn
    apply Ev_loc; assumption; k_allIn
  refine short_sub O hs (by intro _; with_unfolding_all rfl) ?_
  with_reducible
    apply EvL_cons; (k_dflt rfl)
    apply Ev_BinOp
    apply Ev_loc; assumption; k_allIn
    apply Ev_int
    apply add_ii
    apply EvL_nil
    apply new_tuple; (k_dflt exact Nat.le_of_ble_eq_true rfl)
  exact Has.mk .nil ⟨rfl, rfl⟩
theorem fs_escape_zero {x : Str} {i : Nat} (hz : x.length < 1000000) (hc : ∀ j < 3, x.cps.toList[i + 1 + j]? = some 48) : FS 365 3 [.str x, .int (i : Int)] [] fun v led => v = .tup [.str ⟨#[0]⟩, .int ((i + 4 : Nat) : Int)] ∧ led = [] := by
  refine FS.intro (scf 365) [S "text", S "at"] [S "sign", S "value", S "end"] [(S "text", some (.str x)), (S "at", some (.int (i : Int))), (S "sign", none), (S "value", none), (S "end", none)] (fun P => by rfl) (fun P => by kernel_rfl!) (by rfl) rfl (len2 fun _ _ => rfl) (by decide +kernel) (by decide +kernel) (by rfl) (by rfl) (by rfl) (by decide +kernel) rfl ?_ (by decide)
  intro a O hr hh
  have G := g365
  with_reducible
    apply Ex_cons; assumption
    apply Ex_Assign; assumption; (k_dflt rfl)
    apply Ev_SliceS; (intro _ _; k_dflt rfl)
    apply Ev_loc; assumption; k_allIn
    apply ex_str
    apply evP_some
    apply Ev_BinOp
    apply Ev_loc; assumption; k_allIn
    apply Ev_int
    apply add_ii
    apply ex_int
    apply evP_some
    apply Ev_BinOp
    apply Ev_loc; assumption; k_allIn
    apply Ev_int
    apply add_ii
    apply ex_int
  refine ⟨Nat.le_of_lt hz, ?_⟩
  rw [slice_two (hc 0 (by decide))]
  with_reducible
    apply Stored.mk; k_allIn
    apply Ex_cons; assumption
    apply Ex_If
    apply EvB_Compare; (k_dflt rfl)
    apply Ev_loc; assumption; k_allIn
    apply Ev_str
    apply eq_ss
    apply truthy_b
    refine Two.f rfl ?_
    apply Ex_nil
    apply Ex_cons; assumption
    apply Ex_If
    apply EvB_Compare; (k_dflt rfl)
    apply Ev_loc; assumption; k_allIn
    apply Ev_globR; assumption; assumption; k_allIn
  refine short_in O ?_
  rw [show shortE.lookup ⟨#[48]⟩ = none from by decide +kernel]
  with_reducible
    apply truthy_b
    refine Two.f rfl ?_
    apply Ex_nil
    apply Ex_cons; assumption
    apply Ex_If
    apply EvB_Compare; (k_dflt rfl)
    apply Ev_loc; assumption; k_allIn
    apply Ev_str
  refine in_ss ?_
  with_reducible
    apply truthy_b
    refine Two.t rfl ?_
    apply Ex_cons; assumption
    apply Ex_AssignTup; (k_dflt rfl); (k_dflt rfl)
  with_reducible refine Ev_call O G (by k_allIn) (fun w => by k_dflt kernel_rfl!) (by k_dflt rfl) ?_
  with_reducible
    apply EvL_cons; (k_dflt rfl)
    apply Ev_loc; assumption; k_allIn
    apply EvL_cons; (k_dflt rfl)
    apply Ev_BinOp
    apply Ev_loc; assumption; k_allIn
    apply Ev_int
    apply add_ii
    apply EvL_cons; (k_dflt rfl)
    apply Ev_int
    apply EvL_cons; (k_dflt rfl)
    apply Ev_int
    apply EvL_nil
  refine OpL_FSe (fs_digits (i := i + 1) hz hc) O hh (room_of hr rfl) (by decide) (by k_allIn) ?_
  with_reducible
    apply Appd.mk; k_allIn
    apply asn_2; assumption; (k_dflt assumption)
    apply Stored.mk; k_allIn
    apply Stored.mk; k_allIn
    apply Ex_cons; assumption
    apply Ex_Return
    apply Ev_Tuple
    apply EvL_cons; (k_dflt rfl)
    apply Ev_callB; assumption; assumption; k_allIn; (k_dflt rfl)
    apply EvL_cons; (k_dflt rfl)
    apply Ev_loc; assumption; k_allIn
    apply EvL_nil
  refine chr_i (by decide) (by decide) ?_
  with_reducible
    apply EvL_cons; (k_dflt rfl)
    apply Ev_loc; assumption; k_allIn
    apply EvL_nil
    apply new_tuple; (k_dflt exact Nat.le_of_ble_eq_true rfl)
  exact Has.mk .nil ⟨rfl, rfl⟩


/-! ## the law's own parts -/
theorem g647 : GOk (scf 647) [(S "len", .builtin "len")] := .cons (by decide +kernel) gl_len .nil
noncomputable def fallV (cs : List Int) (st : Nat) (many : Int) : Int :=
  if st < cs.length then (cs.getD st 0).fmod many else (((st + 1 : Nat) * (st + 1 : Nat) + 5 * (st + 1 : Nat) : Nat) : Int).fmod many
/-- the jar -/
noncomputable abbrev jarL (jar cl : Addr) (cs : List Int) (st : Nat) : Led := [(jar, .dS [(S "cells", .ref cl), (S "step", .int (st : Nat))]), (cl, .list (lst cs))]
theorem sq64 {n : Nat} (h : n < 2 ^ 30) : -(2 ^ 64 : Int) < (n : Int) ∧ (n : Int) < 2 ^ 64 := by omega
theorem fs_fall {jar cl : Addr} {cs : List Int} {st : Nat} {many : Int} (hm : many ≠ 0) (hz : cs.length < 1000000) (hst : st < 2 ^ 29) :
    FS 647 2 [.ref jar, .int many] (jarL jar cl cs st) fun v led => v = .int (fallV cs st many) ∧ led = jarL jar cl cs (st + 1) := by
  refine FS.intro (scf 647) [S "jar", S "many"] [] [(S "jar", some (.ref jar)), (S "many", some (.int many))] (fun P => by rfl) (fun P => by kernel_rfl!) (by rfl) rfl (len2 fun _ _ => rfl) (by decide +kernel) (by decide +kernel) (by rfl) (by rfl) (by rfl) (by decide +kernel) rfl ?_ (by decide)
  intro a O hr hh
  have G := g647
  have e1 : ((st : Int) + 1) = ((st + 1 : Nat) : Int) := rfl
  have h2 : st + 1 < 2 ^ 30 := Nat.lt_of_lt_of_le (Nat.succ_lt_succ hst) (by decide)
  with_reducible
    apply Ex_cons; assumption
    apply Ex_AssignSub; (k_dflt rfl)
    apply Ev_BinOp
    apply Ev_Sub
    apply Ev_loc; assumption; k_allIn
    apply Ev_str
    apply sub_dS; k_allIn; k_allIn; (intro _; with_unfolding_all rfl)
    apply Ev_int
    apply add_ii
    apply Ev_loc; assumption; k_allIn
    apply Ev_str
    apply set_dS; k_allIn; k_allIn; k_allIn; (k_dflt exact Nat.le_of_ble_eq_true rfl)
    apply Ex_cons; assumption
    apply Ex_If
    apply EvB_Compare; (k_dflt rfl)
    apply Ev_Sub
    apply Ev_loc; assumption; k_allIn
    apply Ev_str
    apply sub_dS; k_allIn; k_allIn; (intro _; with_unfolding_all rfl)
    apply Ev_callB; assumption; assumption; k_allIn; (k_dflt rfl)
    apply EvL_cons; (k_dflt rfl)
    apply Ev_Sub
    apply Ev_loc; assumption; k_allIn
    apply Ev_str
    apply sub_dS; k_allIn; k_allIn; (intro _; with_unfolding_all rfl)
    apply EvL_nil
    apply len_lst; k_allIn; assumption
    apply le_ii
    apply truthy_b
  rw [e1]
  refine ⟨fun hb => ?_, fun hb => ?_⟩
  · have hlt : st < cs.length := Int.ofNat_le.mp (of_decide_eq_true hb)
    have e2 : ((st + 1 : Nat) : Int) - 1 = ((st : Nat) : Int) := by rw [← e1]; exact Int.add_sub_cancel ..
    with_reducible
      apply Ex_cons; assumption
      apply Ex_Return
      apply Ev_BinOp
      apply Ev_Sub
      apply Ev_Sub
      apply Ev_loc; assumption; k_allIn
      apply Ev_str
      apply sub_dS; k_allIn; k_allIn; (intro _; with_unfolding_all rfl)
      apply Ev_BinOp
      apply Ev_Sub
      apply Ev_loc; assumption; k_allIn
      apply Ev_str
      apply sub_dS; k_allIn; k_allIn; (intro _; with_unfolding_all rfl)
      apply Ev_int
      apply sub_ii
    rw [e2]
    refine sub_nat (by k_allIn) hz hlt (by intro _; with_unfolding_all rfl) ?_
    with_reducible
      apply Ev_loc; assumption; k_allIn
    refine mod_ii hm ?_
    refine Has.mk (by k_allIn) ⟨?_, rfl⟩
    unfold fallV
    rw [if_pos hlt]
  · have hge : ¬ st < cs.length := fun q => of_decide_eq_false hb (Int.ofNat_le.mpr q)
    with_reducible
      apply Ex_nil
      apply Ex_cons; assumption
      apply Ex_Return
      apply Ev_BinOp
      apply Ev_BinOp
      apply Ev_BinOp
      apply Ev_Sub
      apply Ev_loc; assumption; k_allIn
      apply Ev_str
      apply sub_dS; k_allIn; k_allIn; (intro _; with_unfolding_all rfl)
      apply Ev_Sub
      apply Ev_loc; assumption; k_allIn
      apply Ev_str
      apply sub_dS; k_allIn; k_allIn; (intro _; with_unfolding_all rfl)
    refine mul_ii (sq64 h2).1 (sq64 h2).2 ?_
    with_reducible
      apply Ev_BinOp
      apply Ev_int
      apply Ev_Sub
      apply Ev_loc; assumption; k_allIn
      apply Ev_str
      apply sub_dS; k_allIn; k_allIn; (intro _; with_unfolding_all rfl)
    refine mul_ii (by decide) (by decide) ?_
    with_reducible
      apply add_ii
      apply Ev_loc; assumption; k_allIn
    refine mod_ii hm ?_
    refine Has.mk (by k_allIn) ⟨?_, rfl⟩
    unfold fallV
    rw [if_neg hge]
    rfl


/-! ## flags, groups -/
noncomputable abbrev oneS (cs : List Nat) : List Str := cs.map fun c => ⟨#[c]⟩
theorem oneS_sum (cs : List Nat) : ((oneS cs).map (·.length)).sum = cs.length := by
  induction cs with
  | nil => rfl
  | cons c r ih => show 1 + ((oneS r).map (·.length)).sum = _; rw [ih, List.length_cons]; omega
theorem signs_get {x : Str} {i : Nat} {av : AV} (h : (signs x)[i]? = some av) : ∃ c, x.cps.toList[i]? = some c ∧ av = .str ⟨#[c]⟩ := by
  unfold signs at h
  rw [List.getElem?_map] at h
  obtain ⟨c, e, rfl⟩ := Option.map_eq_some_iff.mp h
  exact ⟨c, e, rfl⟩
theorem filt_snoc {p : Nat → Bool} {l : List Nat} {i c : Nat} (h : l[i]? = some c) : (l.take (i + 1)).filter p = (l.take i).filter p ++ if p c then [c] else [] := by
  rw [List.take_add_one, h, Option.toList_some, List.filter_append]
  cases hp : p c <;> simp [hp]
theorem fs_own_flags {x : Str} : FS 468 2 [.str x] [] fun v led => v = .str (Txt.join (S "") (oneS ((S "imsx").cps.toList.filter fun c => decide (c ∈ x.cps.toList)))) ∧ led = [] := by
  refine FSX.introC (scf 468) [S "flags"] [] [(S "flags", some (.str x))] [S "flags"] rfl (fun P => by rfl) (fun P => by kernel_rfl!) (by rfl) rfl (by decide +kernel) (fun vs h => len1 (P := fun vs => bindArgs _ ⟨vs, []⟩ = pure ([S "flags"].zip vs)) (fun _ => rfl) vs h) (by decide +kernel) (by rfl) (by decide) (by decide +kernel) (by decide +kernel) (by rfl) (by rfl) (by rfl) (fun _ _ h => nomatch h) (fun y av h => by cases List.mem_singleton.mp h; exact .head _) ?_ (by decide)
  intro a ad O hr hh hcl Z
  have hf := hcl (S "flags") (.head _)
  show Ex a _ _ [(ad (S "flags"), .cell (some (.str x)))] _
  with_reducible
    apply Ex_cons; assumption
    apply Ex_Return
  with_reducible refine Ev_meth (by with_unfolding_all rfl) (by k_dflt rfl) ?_
  with_reducible
    apply Ev_str
    apply MethA.mk; apply m_join
    apply EvL_cons; (k_dflt rfl)
  obtain ⟨p, hp⟩ : ∃ p : Nat → Bool, p = fun c => decide (c ∈ x.cps.toList) := ⟨_, rfl⟩
  refine Ev_ListComp ad [S "flag"] O (by decide +kernel) (fun y hy => by cases List.mem_singleton.mp hy; exact hf) (by intro _; rfl) ?_
  with_reducible
    apply Ev_str
  refine CompA.mke (signs (S "imsx")) [] _ ([(ad (S "flags"), .cell (some (.str x)))]) (fun i => (oneS (((S "imsx").cps.toList.take i).filter p)).map .str) .nil (by decide) (iter_str O hh) (by k_allIn) rfl ?_ ?_
  · intro c i av O hcr hch hcl hav
    obtain ⟨k, hk, rfl⟩ := signs_get hav
    have hs := filt_snoc (p := p) hk
    have hf := hcl (S "flags") (.head _)
    refine asn_name O .here ?_
    refine ct_one ?_
    with_reducible
      apply EvB_Compare; (k_dflt rfl)
      apply Ev_loc; assumption; k_allIn
      apply Ev_cell; assumption; (decide +kernel); assumption; k_allIn
    refine in_ss ?_
    with_reducible
      apply truthy_b
    rw [show decide (k ∈ x.cps.toList) = p k from by rw [hp]]
    refine ⟨fun hb => ?_, fun hb => ?_⟩
    · rw [hb, if_pos rfl] at hs
      with_reducible
        apply Ev_loc; assumption; k_allIn
      refine Has.mk (by k_allIn) ⟨?_, rfl⟩
      rw [hs]
      show _ = List.map _ (List.map _ (_ ++ _))
      rw [List.map_append, List.map_append]; rfl
    · rw [hb, if_neg (by decide), List.append_nil] at hs
      refine Has.mk (by k_allIn) ⟨?_, rfl⟩
      rw [hs]
  · skip
    with_reducible
      apply Appd.mk; k_allIn
    intro D
    with_reducible
      apply EvL_nil
    refine join_s (by k_allIn) (by decide) ?_ ?_
    · rw [oneS_sum, List.length_map]
      have := List.length_filter_le p ((S "imsx").cps.toList.take (signs (S "imsx")).length)
      have h2 : ((S "imsx").cps.toList.take (signs (S "imsx")).length).length ≤ 4 := by decide
      omega
    refine Has.mk .nil ⟨?_, rfl⟩
    rw [hp]; rfl


/-! ## the signs of a list -/
theorem g400 : GOk (scf 400) [(S "escape_at", .ref 365)] := .cons (by decide +kernel) gl_escape_at .nil
theorem fs_guarded {x : Str} {i : Nat} {R : AV → Led → Prop} (F : FS 365 3 [.str x, .int (i : Int)] [] R) (hR : ∀ v led, R v led → led = []) : FS 400 4 [.str x, .int (i : Int)] [] R := by
  refine FS.intro (scf 400) [S "text", S "at"] [S "fault"] [(S "text", some (.str x)), (S "at", some (.int (i : Int))), (S "fault", none)] (fun P => by rfl) (fun P => by kernel_rfl!) (by rfl) rfl (len2 fun _ _ => rfl) (by decide +kernel) (by decide +kernel) (by rfl) (by rfl) (by rfl) (by decide +kernel) rfl ?_ (by decide)
  intro a O hr hh
  have G := g400
  with_reducible
    apply Ex_cons; assumption
  refine Ex_Try0 O fun E O => ?_
  have hh : (a.tried E).hd = true := hh
  with_reducible
    apply Ex_cons; assumption
    apply Ex_Return
  with_reducible refine Ev_call O G (by k_allIn) (fun w => by k_dflt kernel_rfl!) (by k_dflt rfl) ?_
  with_reducible
    apply EvL_cons; (k_dflt rfl)
    apply Ev_loc; assumption; k_allIn
    apply EvL_cons; (k_dflt rfl)
    apply Ev_loc; assumption; k_allIn
    apply EvL_nil
  refine OpL_FS F O hh (room_of hr rfl) (by decide) (by k_allIn) ?_
  intro v led h
  have e := hR _ _ h
  subst e
  with_reducible
    apply Appd.mk; k_allIn
  exact Has.mk .nil h


noncomputable abbrev thing (num : AV) (wk : Addr) : List (Str × AV) := [(S "number", num), (S "count", .int 0), (S "blessed", .none), (S "weak", .ref wk), (S "is_destroyed", .bool false), (S "is_freed", .bool false)]
theorem fc_Thing {x d : Addr} {num : AV} : FCX 93 2 (fun vs => ⟨vs, []⟩) [.ref x, num] [(x, .inst 117 d), (d, .attrs [])] (fun v led => v = .none ∧ ∃ wk, led = [(x, .inst 117 d), (d, .attrs (thing num wk)), (wk, .list [])]) fun _ => False := by
  refine FCX.intro (scf 93) [S "self", S "number"] [] [.ref x, num] [(S "self", some (.ref x)), (S "number", some (num))] (fun P => by rfl) (fun P => by kernel_rfl!) (by rfl) rfl (fun {_ _ vs} _ hr => ⟨vs, hr, BindsTo.of_eq (len2 (P := fun vs => bindArgs _ ⟨vs, []⟩ = pure (([S "self", S "number"]).zip vs)) (fun _ _ => rfl) vs hr.length)⟩) (by decide +kernel) (by decide +kernel) (by rfl) (by rfl) (by rfl) (by decide +kernel) rfl ?_ (by decide)
  intro a O hr hh Z
  with_reducible
    apply Ex_cons; assumption
    apply Ex_AssignAttr; (k_dflt rfl)
    apply Ev_loc; assumption; k_allIn
    apply Ev_loc; assumption; k_allIn
    apply set_snoc; assumption; k_allIn; k_allIn; k_allIn; (first | exact cls117 | exact cls389 | exact cls579 | exact cls614 | exact cls636 | exact cls276); (k_dflt rfl); (k_dflt rfl); (k_dflt exact Nat.le_of_ble_eq_true rfl); k_allIn
    apply Ex_cons; assumption
    apply Ex_AssignAttr; (k_dflt rfl)
    apply Ev_int
    apply Ev_loc; assumption; k_allIn
    apply set_snoc; assumption; k_allIn; k_allIn; k_allIn; (first | exact cls117 | exact cls389 | exact cls579 | exact cls614 | exact cls636 | exact cls276); (k_dflt rfl); (k_dflt rfl); (k_dflt exact Nat.le_of_ble_eq_true rfl); k_allIn
    apply Ex_cons; assumption
    apply Ex_AssignAttr; (k_dflt rfl)
    apply Ev_none
    apply Ev_loc; assumption; k_allIn
    apply set_snoc; assumption; k_allIn; k_allIn; k_allIn; (first | exact cls117 | exact cls389 | exact cls579 | exact cls614 | exact cls636 | exact cls276); (k_dflt rfl); (k_dflt rfl); (k_dflt exact Nat.le_of_ble_eq_true rfl); k_allIn
    apply Ex_cons; assumption
    apply Ex_AssignAttr; (k_dflt rfl)
    apply Ev_List
    apply EvL_nil
    apply new_list; assumption; (k_dflt exact Nat.le_of_ble_eq_true rfl); intro _
    apply Ev_loc; assumption; k_allIn
    apply set_snoc; assumption; k_allIn; k_allIn; k_allIn; (first | exact cls117 | exact cls389 | exact cls579 | exact cls614 | exact cls636 | exact cls276); (k_dflt rfl); (k_dflt rfl); (k_dflt exact Nat.le_of_ble_eq_true rfl); k_allIn
    apply Ex_cons; assumption
    apply Ex_AssignAttr; (k_dflt rfl)
    apply Ev_bool
    apply Ev_loc; assumption; k_allIn
    apply set_snoc; assumption; k_allIn; k_allIn; k_allIn; (first | exact cls117 | exact cls389 | exact cls579 | exact cls614 | exact cls636 | exact cls276); (k_dflt rfl); (k_dflt rfl); (k_dflt exact Nat.le_of_ble_eq_true rfl); k_allIn
    apply Ex_cons; assumption
    apply Ex_AssignAttr; (k_dflt rfl)
    apply Ev_bool
    apply Ev_loc; assumption; k_allIn
    apply set_snoc; assumption; k_allIn; k_allIn; k_allIn; (first | exact cls117 | exact cls389 | exact cls579 | exact cls614 | exact cls636 | exact cls276); (k_dflt rfl); (k_dflt rfl); (k_dflt exact Nat.le_of_ble_eq_true rfl); k_allIn
    apply Ex_nil
  exact Has.mk (by k_allIn) ⟨rfl, _, rfl⟩
theorem g114 : GOk (scf 114) [(S "Thing", .ref 96)] := .cons (by decide +kernel) gl_Thing .nil
theorem mc_Thing : MethC 96 (S "__init__") 93 := fun w => by kernel_rfl!
noncomputable abbrev scalW (x d wk : Addr) (num : Int) (val : AV) : Led := [(x, .inst 117 d), (d, .attrs [(S "number", .int num), (S "count", .int 0), (S "blessed", .none), (S "weak", .ref wk), (S "is_destroyed", .bool false), (S "is_freed", .bool false), (S "value", val), (S "magic", .none)]), (wk, .list [])]
theorem fc_Scalar {x d : Addr} {num : Int} {val : AV} : FCX 114 3 (fun vs => ⟨vs, []⟩) [.ref x, .int num, val] [(x, .inst 117 d), (d, .attrs [])] (fun v led => v = .none ∧ ∃ wk, led = scalW x d wk num val) fun _ => False := by
  refine FCX.intro (scf 114) [S "self", S "number", S "value"] [] [.ref x, .int num, val] [(S "self", some (.ref x)), (S "number", some (.int num)), (S "value", some (val))] (fun P => by rfl) (fun P => by kernel_rfl!) (by rfl) rfl (fun {_ _ vs} _ hr => ⟨vs, hr, BindsTo.of_eq (len3 (P := fun vs => bindArgs _ ⟨vs, []⟩ = pure (([S "self", S "number", S "value"]).zip vs)) (fun _ _ _ => rfl) vs hr.length)⟩) (by decide +kernel) (by decide +kernel) (by rfl) (by rfl) (by rfl) (by decide +kernel) rfl ?_ (by decide)
  intro a O hr hh Z
  have G := g114
  with_reducible
    apply Ex_cons; assumption
    apply Ex_Expr; (k_dflt rfl); (k_dflt rfl)
  refine Ev_methC O G (by k_allIn) mc_Thing (by with_unfolding_all rfl) (by k_dflt rfl) ?_
  with_reducible
    apply EvL_cons; (k_dflt rfl)
    apply Ev_loc; assumption; k_allIn
    apply EvL_cons; (k_dflt rfl)
    apply Ev_loc; assumption; k_allIn
    apply EvL_nil
  refine OpL_FS (FSX.of_code fc_Thing) O hh (room_of hr rfl) (by decide) (by k_allIn) ?_
  rintro _ _ ⟨rfl, wk, rfl⟩
  with_reducible
    apply Appd.mk; k_allIn
    apply Ex_cons; assumption
    apply Ex_AssignAttr; (k_dflt rfl)
    apply Ev_loc; assumption; k_allIn
    apply Ev_loc; assumption; k_allIn
    apply set_snoc; assumption; k_allIn; k_allIn; k_allIn; (first | exact cls117 | exact cls389 | exact cls579 | exact cls614 | exact cls636 | exact cls276); (k_dflt rfl); (k_dflt rfl); (k_dflt exact Nat.le_of_ble_eq_true rfl); k_allIn
    apply Ex_cons; assumption
    apply Ex_AssignAttr; (k_dflt rfl)
    apply Ev_none
    apply Ev_loc; assumption; k_allIn
    apply set_snoc; assumption; k_allIn; k_allIn; k_allIn; (first | exact cls117 | exact cls389 | exact cls579 | exact cls614 | exact cls636 | exact cls276); (k_dflt rfl); (k_dflt rfl); (k_dflt exact Nat.le_of_ble_eq_true rfl); k_allIn
    apply Ex_nil
  exact Has.mk (by k_allIn) ⟨rfl, _, rfl⟩
theorem fc_Heap {x d lm : Addr} : FCX 231 2 (fun vs => ⟨vs, []⟩) [.ref x, .ref lm] [(x, .inst 276 d), (d, .attrs [])] (fun v led => v = .none ∧ ∃ z, led = [(x, .inst 276 d), (d, .attrs [(S "limits", .ref lm), (S "last", .int 0), (S "zero", .ref z)]), (z, .list [])]) fun _ => False := by
  refine FCX.intro (scf 231) [S "self", S "limits"] [] [.ref x, .ref lm] [(S "self", some (.ref x)), (S "limits", some (.ref lm))] (fun P => by rfl) (fun P => by kernel_rfl!) (by rfl) rfl (fun {_ _ vs} _ hr => ⟨vs, hr, BindsTo.of_eq (len2 (P := fun vs => bindArgs _ ⟨vs, []⟩ = pure (([S "self", S "limits"]).zip vs)) (fun _ _ => rfl) vs hr.length)⟩) (by decide +kernel) (by decide +kernel) (by rfl) (by rfl) (by rfl) (by decide +kernel) rfl ?_ (by decide)
  intro a O hr hh Z
  with_reducible
    apply Ex_cons; assumption
    apply Ex_AssignAttr; (k_dflt rfl)
    apply Ev_loc; assumption; k_allIn
    apply Ev_loc; assumption; k_allIn
    apply set_snoc; assumption; k_allIn; k_allIn; k_allIn; (first | exact cls117 | exact cls389 | exact cls579 | exact cls614 | exact cls636 | exact cls276); (k_dflt rfl); (k_dflt rfl); (k_dflt exact Nat.le_of_ble_eq_true rfl); k_allIn
    apply Ex_cons; assumption
    apply Ex_AssignAttr; (k_dflt rfl)
    apply Ev_int
    apply Ev_loc; assumption; k_allIn
    apply set_snoc; assumption; k_allIn; k_allIn; k_allIn; (first | exact cls117 | exact cls389 | exact cls579 | exact cls614 | exact cls636 | exact cls276); (k_dflt rfl); (k_dflt rfl); (k_dflt exact Nat.le_of_ble_eq_true rfl); k_allIn
    apply Ex_cons; assumption
    apply Ex_AssignAttr; (k_dflt rfl)
    apply Ev_List
    apply EvL_nil
    apply new_list; assumption; (k_dflt exact Nat.le_of_ble_eq_true rfl); intro _
    apply Ev_loc; assumption; k_allIn
    apply set_snoc; assumption; k_allIn; k_allIn; k_allIn; (first | exact cls117 | exact cls389 | exact cls579 | exact cls614 | exact cls636 | exact cls276); (k_dflt rfl); (k_dflt rfl); (k_dflt exact Nat.le_of_ble_eq_true rfl); k_allIn
    apply Ex_nil
  exact Has.mk (by k_allIn) ⟨rfl, _, rfl⟩
theorem fc_Counter {x d hp : Addr} : FCX 501 2 (fun vs => ⟨vs, []⟩) [.ref x, .ref hp, .none] [(x, .inst 579 d), (d, .attrs [])] (fun v led => v = .none ∧ ∃ p e, led = [(x, .inst 579 d), (d, .attrs [(S "heap", .ref hp), (S "destroy", .none), (S "places", .ref p), (S "empties", .ref e)]), (p, .dI []), (e, .dI [])]) fun _ => False := by
  refine FCX.intro (scf 501) [S "self", S "heap", S "destroy"] [] [.ref x, .ref hp, .none] [(S "self", some (.ref x)), (S "heap", some (.ref hp)), (S "destroy", some (.none))] (fun P => by rfl) (fun P => by kernel_rfl!) (by rfl) rfl (fun {_ _ vs} _ hr => ⟨vs, hr, BindsTo.of_eq (len3 (P := fun vs => bindArgs _ ⟨vs, []⟩ = pure (([S "self", S "heap", S "destroy"]).zip vs)) (fun _ _ _ => rfl) vs hr.length)⟩) (by decide +kernel) (by decide +kernel) (by rfl) (by rfl) (by rfl) (by decide +kernel) rfl ?_ (by decide)
  intro a O hr hh Z
  with_reducible
    apply Ex_cons; assumption
    apply Ex_AssignAttr; (k_dflt rfl)
    apply Ev_loc; assumption; k_allIn
    apply Ev_loc; assumption; k_allIn
    apply set_snoc; assumption; k_allIn; k_allIn; k_allIn; (first | exact cls117 | exact cls389 | exact cls579 | exact cls614 | exact cls636 | exact cls276); (k_dflt rfl); (k_dflt rfl); (k_dflt exact Nat.le_of_ble_eq_true rfl); k_allIn
    apply Ex_cons; assumption
    apply Ex_AssignAttr; (k_dflt rfl)
    apply Ev_loc; assumption; k_allIn
    apply Ev_loc; assumption; k_allIn
    apply set_snoc; assumption; k_allIn; k_allIn; k_allIn; (first | exact cls117 | exact cls389 | exact cls579 | exact cls614 | exact cls636 | exact cls276); (k_dflt rfl); (k_dflt rfl); (k_dflt exact Nat.le_of_ble_eq_true rfl); k_allIn
    apply Ex_cons; assumption
    apply Ex_AssignAttr; (k_dflt rfl)
    apply Ev_DictE; assumption; intro _
    apply Ev_loc; assumption; k_allIn
    apply set_snoc; assumption; k_allIn; k_allIn; k_allIn; (first | exact cls117 | exact cls389 | exact cls579 | exact cls614 | exact cls636 | exact cls276); (k_dflt rfl); (k_dflt rfl); (k_dflt exact Nat.le_of_ble_eq_true rfl); k_allIn
    apply Ex_cons; assumption
    apply Ex_AssignAttr; (k_dflt rfl)
    apply Ev_DictE; assumption; intro _
    apply Ev_loc; assumption; k_allIn
    apply set_snoc; assumption; k_allIn; k_allIn; k_allIn; (first | exact cls117 | exact cls389 | exact cls579 | exact cls614 | exact cls636 | exact cls276); (k_dflt rfl); (k_dflt rfl); (k_dflt exact Nat.le_of_ble_eq_true rfl); k_allIn
    apply Ex_nil
  exact Has.mk (by k_allIn) ⟨rfl, _, _, rfl⟩
theorem fc_TransTable {x d c b m : Addr} {tn del sq : Bool} : FCX 386 2 (fun vs => ⟨vs, []⟩) [.ref x, .ref c, .bool tn, .ref b, .ref m, .bool del, .bool sq] [(x, .inst 389 d), (d, .attrs [])] (fun v led => v = .none ∧ led = [(x, .inst 389 d), (d, .attrs [(S "codes", .ref c), (S "is_turned", .bool tn), (S "barred", .ref b), (S "becomes", .ref m), (S "is_deleting", .bool del), (S "is_squeezing", .bool sq)])]) fun _ => False := by
  refine FCX.intro (scf 386) [S "self", S "codes", S "is_turned", S "barred", S "becomes", S "is_deleting", S "is_squeezing"] [] [.ref x, .ref c, .bool tn, .ref b, .ref m, .bool del, .bool sq] [(S "self", some (.ref x)), (S "codes", some (.ref c)), (S "is_turned", some (.bool tn)), (S "barred", some (.ref b)), (S "becomes", some (.ref m)), (S "is_deleting", some (.bool del)), (S "is_squeezing", some (.bool sq))] (fun P => by rfl) (fun P => by kernel_rfl!) (by rfl) rfl (fun {_ _ vs} _ hr => ⟨vs, hr, BindsTo.of_eq (len7 (P := fun vs => bindArgs _ ⟨vs, []⟩ = pure (([S "self", S "codes", S "is_turned", S "barred", S "becomes", S "is_deleting", S "is_squeezing"]).zip vs)) (fun _ _ _ _ _ _ _ => rfl) vs hr.length)⟩) (by decide +kernel) (by decide +kernel) (by rfl) (by rfl) (by rfl) (by decide +kernel) rfl ?_ (by decide)
  intro a O hr hh Z
  with_reducible
    apply Ex_cons; assumption
    apply Ex_AssignAttr; (k_dflt rfl)
    apply Ev_loc; assumption; k_allIn
    apply Ev_loc; assumption; k_allIn
    apply set_snoc; assumption; k_allIn; k_allIn; k_allIn; (first | exact cls117 | exact cls389 | exact cls579 | exact cls614 | exact cls636 | exact cls276); (k_dflt rfl); (k_dflt rfl); (k_dflt exact Nat.le_of_ble_eq_true rfl); k_allIn
    apply Ex_cons; assumption
    apply Ex_AssignAttr; (k_dflt rfl)
    apply Ev_loc; assumption; k_allIn
    apply Ev_loc; assumption; k_allIn
    apply set_snoc; assumption; k_allIn; k_allIn; k_allIn; (first | exact cls117 | exact cls389 | exact cls579 | exact cls614 | exact cls636 | exact cls276); (k_dflt rfl); (k_dflt rfl); (k_dflt exact Nat.le_of_ble_eq_true rfl); k_allIn
    apply Ex_cons; assumption
    apply Ex_AssignAttr; (k_dflt rfl)
    apply Ev_loc; assumption; k_allIn
    apply Ev_loc; assumption; k_allIn
    apply set_snoc; assumption; k_allIn; k_allIn; k_allIn; (first | exact cls117 | exact cls389 | exact cls579 | exact cls614 | exact cls636 | exact cls276); (k_dflt rfl); (k_dflt rfl); (k_dflt exact Nat.le_of_ble_eq_true rfl); k_allIn
    apply Ex_cons; assumption
    apply Ex_AssignAttr; (k_dflt rfl)
    apply Ev_loc; assumption; k_allIn
    apply Ev_loc; assumption; k_allIn
    apply set_snoc; assumption; k_allIn; k_allIn; k_allIn; (first | exact cls117 | exact cls389 | exact cls579 | exact cls614 | exact cls636 | exact cls276); (k_dflt rfl); (k_dflt rfl); (k_dflt exact Nat.le_of_ble_eq_true rfl); k_allIn
    apply Ex_cons; assumption
    apply Ex_AssignAttr; (k_dflt rfl)
    apply Ev_loc; assumption; k_allIn
    apply Ev_loc; assumption; k_allIn
    apply set_snoc; assumption; k_allIn; k_allIn; k_allIn; (first | exact cls117 | exact cls389 | exact cls579 | exact cls614 | exact cls636 | exact cls276); (k_dflt rfl); (k_dflt rfl); (k_dflt exact Nat.le_of_ble_eq_true rfl); k_allIn
    apply Ex_cons; assumption
    apply Ex_AssignAttr; (k_dflt rfl)
    apply Ev_loc; assumption; k_allIn
    apply Ev_loc; assumption; k_allIn
    apply set_snoc; assumption; k_allIn; k_allIn; k_allIn; (first | exact cls117 | exact cls389 | exact cls579 | exact cls614 | exact cls636 | exact cls276); (k_dflt rfl); (k_dflt rfl); (k_dflt exact Nat.le_of_ble_eq_true rfl); k_allIn
    apply Ex_nil
  exact Has.mk (by k_allIn) ⟨rfl, rfl⟩


theorem mk276 : MakeOk 276 231 := fun w => by kernel_rfl!
theorem mk117 : MakeOk 117 114 := fun w => by kernel_rfl!
theorem mk579 : MakeOk 579 501 := fun w => by kernel_rfl!
theorem mk389 : MakeOk 389 386 := fun w => by kernel_rfl!
theorem mk614 : MakeOk 614 611 := fun w => by kernel_rfl!
theorem mk636 : MakeOk 636 633 := fun w => by kernel_rfl!
theorem kp276 (w : World) : keepIn (KF w.params) (.ref 276) = true := by kernel_rfl!
section
variable {sc : Scope} {a : Act sc} {loc : Loc} {led : Led} {K : KV}
theorem make0 {C fI : Addr} {n : Nat} {args : List AV} {led1 rest : Led} {R : Addr → Addr → AV → Led → Prop} (m : MakeOk C fI) (F : ∀ x d, FCX fI n (fun vs => ⟨vs, []⟩) (.ref x :: args) ((x, .inst C d) :: (d, .attrs []) :: led1) (R x d) fun _ => False) (O : a.Ok) (H : a.hd = true) (hn : n < a.room) (h0 : 0 < n) (p : PickO led led1 rest)
    (k : ∀ x d av led', R x d av led' → av = .none ∧ Appd led' rest (K (.ref x) loc)) : OpL a (fun vs => call (.ref C) vs) args loc led K :=
  make_inst (mk := fun vs => ⟨vs, []⟩) (mk' := fun vs => ⟨vs, []⟩) m (fun _ _ => rfl) F O H hn h0 p k
end
noncomputable abbrev scA (num : Int) (wk : Addr) (val : AV) : AO := .attrs [(S "number", .int num), (S "count", .int 0), (S "blessed", .none), (S "weak", .ref wk), (S "is_destroyed", .bool false), (S "is_freed", .bool false), (S "value", val), (S "magic", .none)]
noncomputable abbrev hpA (lm z : Addr) (n : Int) : AO := .attrs [(S "limits", .ref lm), (S "last", .int n), (S "zero", .ref z)]
noncomputable abbrev ctA (hp p e : Addr) : AO := .attrs [(S "heap", .ref hp), (S "destroy", .none), (S "places", .ref p), (S "empties", .ref e)]
noncomputable abbrev heapL (h hd lm z : Addr) (n : Int) : Led := [(h, .inst 276 hd), (hd, .attrs [(S "limits", .ref lm), (S "last", .int n), (S "zero", .ref z)])]
theorem fs_next {h hd lm z : Addr} {n : Int} : FS 238 2 [.ref h] (heapL h hd lm z n) fun v led => v = .int (n + 1) ∧ led = heapL h hd lm z (n + 1) := by
  refine FS.intro (scf 238) [S "self"] [] [(S "self", some (.ref h))] (fun P => by rfl) (fun P => by kernel_rfl!) (by rfl) rfl (len1 fun _ => rfl) (by decide +kernel) (by decide +kernel) (by rfl) (by rfl) (by rfl) (by decide +kernel) rfl ?_ (by decide)
  intro a O hr hh
  with_reducible
    apply Ex_cons; assumption
    apply Ex_AugAttr
    apply Ev_loc; assumption; k_allIn
    apply get_at; assumption; k_allIn; k_allIn; (first | exact cls117 | exact cls389 | exact cls579 | exact cls614 | exact cls636 | exact cls276); (k_dflt rfl); k_allIn
    apply Ev_int
    apply iadd_ii
    apply set_at; assumption; k_allIn; k_allIn; k_allIn; (first | exact cls117 | exact cls389 | exact cls579 | exact cls614 | exact cls636 | exact cls276); (k_dflt rfl); (k_dflt exact Nat.le_of_ble_eq_true rfl); k_allIn
    apply Ex_cons; assumption
    apply Ex_Return
    apply Ev_Attr; (with_unfolding_all rfl)
    apply Ev_loc; assumption; k_allIn
    apply get_at; assumption; k_allIn; k_allIn; (first | exact cls117 | exact cls389 | exact cls579 | exact cls614 | exact cls636 | exact cls276); (k_dflt rfl); k_allIn
  exact Has.mk (by k_allIn) ⟨rfl, rfl⟩
theorem g245 : GOk (scf 245) [(S "Scalar", .ref 117)] := .cons (by decide +kernel) gl_Scalar .nil
theorem mt_next : MethOk 276 (S "next_number") 238 := fun w => by kernel_rfl!
theorem fs_new_scalar {h hd lm z : Addr} {n : Int} {val : AV} : FS 245 5 [.ref h, val] (heapL h hd lm z n) fun v led => ∃ x d wk, v = .ref x ∧ led = [(x, .inst 117 d), (d, scA (n + 1) wk val), (h, .inst 276 hd), (hd, hpA lm z (n + 1))] := by
  refine FS.intro (scf 245) [S "self", S "value"] [] [(S "self", some (.ref h)), (S "value", some (val))] (fun P => by rfl) (fun P => by kernel_rfl!) (by rfl) rfl (len2 fun _ _ => rfl) (by decide +kernel) (by decide +kernel) (by rfl) (by rfl) (by rfl) (by decide +kernel) rfl ?_ (by decide)
  intro a O hr hh
  have G := g245
  with_reducible
    apply Ex_cons; assumption
    apply Ex_Return
  with_reducible refine Ev_call O G (by k_allIn) (fun w => by k_dflt kernel_rfl!) (by k_dflt rfl) ?_
  with_reducible
    apply EvL_cons; (k_dflt rfl)
  refine Ev_methI (pl := _) O (by with_unfolding_all rfl) (by k_dflt rfl) ?_
  with_reducible
    apply Ev_loc; assumption; k_allIn
  refine MethI.mk (by k_allIn) (by k_allIn) mt_next (by k_dflt rfl) ?_
  with_reducible
    apply EvL_nil
  refine OpL_FSe fs_next O hh (room_of hr rfl) (by decide) (by k_allIn) ?_
  with_reducible
    apply Appd.mk; k_allIn
    apply EvL_cons; (k_dflt rfl)
    apply Ev_loc; assumption; k_allIn
    apply EvL_nil
  refine make0 mk117 (fun x d => fc_Scalar) O hh (by rw [hr]; decide) (by decide) (by k_allIn) ?_
  rintro x d _ _ ⟨rfl, wk, rfl⟩
  refine ⟨rfl, ?_⟩
  with_reducible
    apply Appd.mk; k_allIn
  exact Has.mk (by k_allIn) ⟨x, d, wk, rfl, rfl⟩
/-! ## places of matches -/
noncomputable def plD (p : Option Int) : List (Int × AV) := match p with | none => [] | some i => [(1, .int i)]
noncomputable abbrev optA (p : Option Int) : AV := match p with | none => .none | some i => .int i
section
variable {sc : Scope} {a : Act sc} {loc : Loc} {led : Led} {K : KV} {KU : KUn}
theorem pop1 {d : Addr} {p : Option Int} {x : AV} {led' : Led} (g : GetO d (.dI (plD p)) led) (g' : SetO d (.dI (plD none)) led led') (k : ∀ y, K y loc led') : OpL a (fun vs => call (.builtin "dict.pop") vs) [.ref d, .int 1, x] loc led K := by
  refine pop_dI g ?_ ?_ (k _)
  · cases p with
    | none => exact g'
    | some i => exact g'
  · cases p with
    | none => exact Nat.zero_le _
    | some i => show 1 ≤ _; decide
theorem get1 {d : Addr} {p : Option Int} (g : GetO d (.dI (plD p)) led) (k : K (optA p) loc led) : OpL a (fun vs => call (.builtin "dict.get") vs) [.ref d, .int 1] loc led K := by
  refine get_dI2 g ?_
  cases p with
  | none => exact k
  | some i => exact k
end
noncomputable abbrev ctrL (c cd hp p e : Addr) (pl em : Option Int) : Led := [(c, .inst 579 cd), (cd, ctA hp p e), (p, .dI (plD pl)), (e, .dI (plD em))]
theorem fs_set_pos_n {c cd hp p e x d wk : Addr} {val : AV} {pl em : Option Int} : FS 597 2 [.ref c, .ref x, .none] [(c, .inst 579 cd), (cd, ctA hp p e), (p, .dI (plD pl)), (e, .dI (plD em)), (x, .inst 117 d), (d, scA 1 wk val)] fun v led => led = [(c, .inst 579 cd), (cd, ctA hp p e), (p, .dI (plD none)), (e, .dI (plD none)), (x, .inst 117 d), (d, scA 1 wk val)] := by
  refine FS.intro (scf 597) [S "counter", S "scalar", S "place"] [] [(S "counter", some (.ref c)), (S "scalar", some (.ref x)), (S "place", some (.none))] (fun P => by rfl) (fun P => by kernel_rfl!) (by rfl) rfl (len3 fun _ _ _ => rfl) (by decide +kernel) (by decide +kernel) (by rfl) (by rfl) (by rfl) (by decide +kernel) rfl ?_ (by decide)
  intro a O hr hh
  with_reducible
    apply Ex_cons; assumption
    apply Ex_Expr; (k_dflt rfl); (k_dflt rfl)
  with_reducible refine Ev_meth (by with_unfolding_all rfl) (by k_dflt rfl) ?_
  with_reducible
    apply Ev_Attr; (with_unfolding_all rfl)
    apply Ev_loc; assumption; k_allIn
    apply get_at; assumption; k_allIn; k_allIn; (first | exact cls117 | exact cls389 | exact cls579 | exact cls614 | exact cls636 | exact cls276); (k_dflt rfl); k_allIn
    apply MethA.mk; apply m_dpop; k_allIn
    apply EvL_cons; (k_dflt rfl)
    apply Ev_Attr; (with_unfolding_all rfl)
    apply Ev_loc; assumption; k_allIn
    apply get_at; assumption; k_allIn; k_allIn; (first | exact cls117 | exact cls389 | exact cls579 | exact cls614 | exact cls636 | exact cls276); (k_dflt rfl); k_allIn
    apply EvL_cons; (k_dflt rfl)
    apply Ev_none
    apply EvL_nil
  refine pop1 (by k_allIn) (by k_allIn) fun _ => ?_
  with_reducible
    apply Ex_cons; assumption
    apply Ex_If
    apply EvB_Compare; (k_dflt rfl)
    apply Ev_loc; assumption; k_allIn
    apply Ev_none
    apply is_n
    apply truthy_b
    refine Two.t rfl ?_
    apply Ex_cons; assumption
    apply Ex_Expr; (k_dflt rfl); (k_dflt rfl)
  with_reducible refine Ev_meth (by with_unfolding_all rfl) (by k_dflt rfl) ?_
  with_reducible
    apply Ev_Attr; (with_unfolding_all rfl)
    apply Ev_loc; assumption; k_allIn
    apply get_at; assumption; k_allIn; k_allIn; (first | exact cls117 | exact cls389 | exact cls579 | exact cls614 | exact cls636 | exact cls276); (k_dflt rfl); k_allIn
    apply MethA.mk; apply m_dpop; k_allIn
    apply EvL_cons; (k_dflt rfl)
    apply Ev_Attr; (with_unfolding_all rfl)
    apply Ev_loc; assumption; k_allIn
    apply get_at; assumption; k_allIn; k_allIn; (first | exact cls117 | exact cls389 | exact cls579 | exact cls614 | exact cls636 | exact cls276); (k_dflt rfl); k_allIn
    apply EvL_cons; (k_dflt rfl)
    apply Ev_none
    apply EvL_nil
  refine pop1 (by k_allIn) (by k_allIn) fun _ => ?_
  with_reducible
    apply Ex_nil
    apply Ex_nil
  exact Has.mk (by k_allIn) rfl
theorem fs_set_pos_i {c cd hp p e x d wk : Addr} {val : AV} {i : Int} {em : Option Int} : FS 597 2 [.ref c, .ref x, .int i] [(c, .inst 579 cd), (cd, ctA hp p e), (p, .dI (plD none)), (e, .dI (plD em)), (x, .inst 117 d), (d, scA 1 wk val)] fun v led => led = [(c, .inst 579 cd), (cd, ctA hp p e), (p, .dI (plD (some i))), (e, .dI (plD none)), (x, .inst 117 d), (d, scA 1 wk val)] := by
  refine FS.intro (scf 597) [S "counter", S "scalar", S "place"] [] [(S "counter", some (.ref c)), (S "scalar", some (.ref x)), (S "place", some (.int i))] (fun P => by rfl) (fun P => by kernel_rfl!) (by rfl) rfl (len3 fun _ _ _ => rfl) (by decide +kernel) (by decide +kernel) (by rfl) (by rfl) (by rfl) (by decide +kernel) rfl ?_ (by decide)
  intro a O hr hh
  with_reducible
    apply Ex_cons; assumption
    apply Ex_Expr; (k_dflt rfl); (k_dflt rfl)
  with_reducible refine Ev_meth (by with_unfolding_all rfl) (by k_dflt rfl) ?_
  with_reducible
    apply Ev_Attr; (with_unfolding_all rfl)
    apply Ev_loc; assumption; k_allIn
    apply get_at; assumption; k_allIn; k_allIn; (first | exact cls117 | exact cls389 | exact cls579 | exact cls614 | exact cls636 | exact cls276); (k_dflt rfl); k_allIn
    apply MethA.mk; apply m_dpop; k_allIn
    apply EvL_cons; (k_dflt rfl)
    apply Ev_Attr; (with_unfolding_all rfl)
    apply Ev_loc; assumption; k_allIn
    apply get_at; assumption; k_allIn; k_allIn; (first | exact cls117 | exact cls389 | exact cls579 | exact cls614 | exact cls636 | exact cls276); (k_dflt rfl); k_allIn
    apply EvL_cons; (k_dflt rfl)
    apply Ev_none
    apply EvL_nil
  refine pop1 (by k_allIn) (by k_allIn) fun _ => ?_
  with_reducible
    apply Ex_cons; assumption
    apply Ex_If
    apply EvB_Compare; (k_dflt rfl)
    apply Ev_loc; assumption; k_allIn
    apply Ev_none
    apply is_n
    apply truthy_b
    refine Two.f rfl ?_
    apply Ex_cons; assumption
    apply Ex_AssignSub; (k_dflt rfl)
    apply Ev_loc; assumption; k_allIn
    apply Ev_Attr; (with_unfolding_all rfl)
    apply Ev_loc; assumption; k_allIn
    apply get_at; assumption; k_allIn; k_allIn; (first | exact cls117 | exact cls389 | exact cls579 | exact cls614 | exact cls636 | exact cls276); (k_dflt rfl); k_allIn
    apply Ev_Attr; (with_unfolding_all rfl)
    apply Ev_loc; assumption; k_allIn
    apply get_at; assumption; k_allIn; k_allIn; (first | exact cls117 | exact cls389 | exact cls579 | exact cls614 | exact cls636 | exact cls276); (k_dflt rfl); k_allIn
  refine set_dI (kvs := plD none) (kvs' := plD (some i)) (by k_allIn) rfl (by k_allIn) (Nat.zero_le _) ?_
  with_reducible
    apply Ex_nil
    apply Ex_nil
  exact Has.mk (by k_allIn) rfl
theorem fs_pos_of {b : Bool} {c cd hp p e x d wk : Addr} {val : AV} {pl em : Option Int} : FSXb b 590 2 [.ref c, .ref x] [(c, .inst 579 cd), (cd, ctA hp p e), (p, .dI (plD pl)), (e, .dI (plD em)), (x, .inst 117 d), (d, scA 1 wk val)] (fun v led => v = optA pl ∧ led = [(c, .inst 579 cd), (cd, ctA hp p e), (p, .dI (plD pl)), (e, .dI (plD em)), (x, .inst 117 d), (d, scA 1 wk val)]) fun _ => False := by
  refine FSX.intro (scf 590) [S "counter", S "scalar"] [] [(S "counter", some (.ref c)), (S "scalar", some (.ref x))] (fun P => by rfl) (fun P => by kernel_rfl!) (by rfl) rfl (len2 fun _ _ => rfl) (by decide +kernel) (by decide +kernel) (by rfl) (by rfl) (by rfl) (by decide +kernel) rfl ?_ (by decide)
  intro a O hr hh Z
  with_reducible
    apply Ex_cons; assumption
    apply Ex_Return
  with_reducible refine Ev_meth (by with_unfolding_all rfl) (by k_dflt rfl) ?_
  with_reducible
    apply Ev_Attr; (with_unfolding_all rfl)
    apply Ev_loc; assumption; k_allIn
    apply get_at; assumption; k_allIn; k_allIn; (first | exact cls117 | exact cls389 | exact cls579 | exact cls614 | exact cls636 | exact cls276); (k_dflt rfl); k_allIn
    apply MethA.mk; apply m_dget; k_allIn
    apply EvL_cons; (k_dflt rfl)
    apply Ev_Attr; (with_unfolding_all rfl)
    apply Ev_loc; assumption; k_allIn
    apply get_at; assumption; k_allIn; k_allIn; (first | exact cls117 | exact cls389 | exact cls579 | exact cls614 | exact cls636 | exact cls276); (k_dflt rfl); k_allIn
    apply EvL_nil
  refine get1 (by k_allIn) ?_
  exact Has.mk (by k_allIn) ⟨rfl, rfl⟩
/-! ## a store -/
theorem g529 : GOk (scf 529) [(S "isinstance", .builtin "isinstance"), (S "Ref", .ref 213)] := .cons (by decide +kernel) gl_isinstance (.cons (by decide +kernel) gl_Ref .nil)
theorem fs_take {c : AV} {x : Str} : FS 529 2 [c, .str x] [] fun v led => v = .str x ∧ led = [] := by
  refine FS.intro (scf 529) [S "self", S "value"] [] [(S "self", some (c)), (S "value", some (.str x))] (fun P => by rfl) (fun P => by kernel_rfl!) (by rfl) rfl (len2 fun _ _ => rfl) (by decide +kernel) (by decide +kernel) (by rfl) (by rfl) (by rfl) (by decide +kernel) rfl ?_ (by decide)
  intro a O hr hh
  have G := g529
  with_reducible
    apply Ex_cons; assumption
    apply Ex_If
    apply EvB_Not
    apply EvB_plain; (k_dflt rfl)
    apply Ev_callB; assumption; assumption; k_allIn; (k_dflt rfl)
    apply EvL_cons; (k_dflt rfl)
    apply Ev_loc; assumption; k_allIn
    apply EvL_cons; (k_dflt rfl)
    apply Ev_globR; assumption; assumption; k_allIn
    apply EvL_nil
    apply isi_C; (k_dflt rfl); assumption; (first | exact isi_str_ref | exact isi_int_ref | exact isi_none_ref)
    apply truthy_b
    refine Two.t rfl ?_
    apply Ex_cons; assumption
    apply Ex_Return
    apply Ev_loc; assumption; k_allIn
  exact Has.mk .nil ⟨rfl, rfl⟩
theorem g534 : GOk (scf 534) [(S "isinstance", .builtin "isinstance"), (S "Ref", .ref 213)] := .cons (by decide +kernel) gl_isinstance (.cons (by decide +kernel) gl_Ref .nil)
noncomputable def NoRef (v : AV) : Prop := ∃ T, v.tyOf = some T ∧ Isi (.type T) (.ref 213) false
theorem noRef_n : NoRef .none := ⟨_, rfl, isi_none_ref⟩
theorem noRef_i {i : Int} : NoRef (.int i) := ⟨_, rfl, isi_int_ref⟩
theorem noRef_s {i : Str} : NoRef (.str i) := ⟨_, rfl, isi_str_ref⟩
theorem fs_put_off {c x : AV} {v : AV} (hv : NoRef v) : FS 534 2 [c, x, v] [] fun v led => led = [] := by
  refine FSX.introC (scf 534) [S "self", S "scalar", S "value"] [(S "self", some (c)), (S "value", some (v))] [(S "scalar", some (x))] [S "scalar"] rfl (fun P => by rfl) (fun P => by kernel_rfl!) (by rfl) rfl (by decide +kernel) (fun vs h => len3 (P := fun vs => bindArgs _ ⟨vs, []⟩ = pure (([S "self", S "scalar", S "value"]).zip vs)) (fun _ _ _ => rfl) vs h) (by decide +kernel) (show ([S "self", S "value"] : List Str).all (fun x => decide ((scf 534).names.lookup x = some .local) && !(x == ("__debug__" : Str))) = true from by decide +kernel) (show ([S "self", S "value"] : List Str).Nodup from by decide +kernel) (by decide +kernel) (by decide +kernel) (by rfl) (by rfl) (by rfl) (by intro _ _ h; revert h; exact InitL.mem (by repeat (first | exact InitL.nil | apply InitL.none | apply InitL.some | exact GetK.here | apply GetK.there)) _ _) (by intro _ _ h; revert h; exact InitL.mem (by repeat (first | exact InitL.nil | apply InitL.none | apply InitL.some | exact GetK.here | apply GetK.there)) _ _) ?_ (by decide)
  intro a ad O hr hh hcl Z
  have hc_scalar := hcl (S "scalar") (.head _)
  have G := g534
  refine Ex_cells (l := [(ad (S "scalar"), AO.cell (some (x)))]) (by k_allIn) ?_
  obtain ⟨T, hT, hI⟩ := hv
  with_reducible
    apply Ex_cons; assumption
    apply Ex_If
    apply EvB_Not
    apply EvB_plain; (k_dflt rfl)
    apply Ev_callB; assumption; assumption; k_allIn; (k_dflt rfl)
    apply EvL_cons; (k_dflt rfl)
    apply Ev_loc; assumption; k_allIn
    apply EvL_cons; (k_dflt rfl)
    apply Ev_globR; assumption; assumption; k_allIn
    apply EvL_nil
  refine isi_C hT O hI ?_
  with_reducible
    apply truthy_b
    refine Two.t rfl ?_
    apply Ex_cons; assumption
    apply Ex_Return0
  exact Has.mk .nil rfl
theorem mt_take : MethOk 579 (S "take") 529 := fun w => by kernel_rfl!
theorem mt_put_off : MethOk 579 (S "put_off") 534 := fun w => by kernel_rfl!
theorem mt_store : MethOk 579 (S "store") 541 := fun w => by kernel_rfl!
theorem mt_new_scalar : MethOk 276 (S "new_scalar") 245 := fun w => by kernel_rfl!
theorem fs_store {c cd hp p e x d wk : Addr} {val : AV} {y : Str} {pl em : Option Int} (hv : NoRef val) : FS 541 3 [.ref c, .ref x, .str y] [(c, .inst 579 cd), (cd, ctA hp p e), (p, .dI (plD pl)), (e, .dI (plD em)), (x, .inst 117 d), (d, scA 1 wk val)] fun v led => led = [(c, .inst 579 cd), (cd, ctA hp p e), (p, .dI (plD none)), (e, .dI (plD none)), (x, .inst 117 d), (d, scA 1 wk (.str y))] := by
  refine FS.intro (scf 541) [S "self", S "scalar", S "value"] [S "old"] [(S "self", some (.ref c)), (S "scalar", some (.ref x)), (S "value", some (.str y)), (S "old", none)] (fun P => by rfl) (fun P => by kernel_rfl!) (by rfl) rfl (len3 fun _ _ _ => rfl) (by decide +kernel) (by decide +kernel) (by rfl) (by rfl) (by rfl) (by decide +kernel) rfl ?_ (by decide)
  intro a O hr hh
  with_reducible
    apply Ex_cons; assumption
    apply Ex_Expr; (k_dflt rfl); (k_dflt rfl)
  with_reducible refine Ev_meth (by with_unfolding_all rfl) (by k_dflt rfl) ?_
  with_reducible
    apply Ev_Attr; (with_unfolding_all rfl)
    apply Ev_loc; assumption; k_allIn
    apply get_at; assumption; k_allIn; k_allIn; (first | exact cls117 | exact cls389 | exact cls579 | exact cls614 | exact cls636 | exact cls276); (k_dflt rfl); k_allIn
    apply MethA.mk; apply m_dpop; k_allIn
    apply EvL_cons; (k_dflt rfl)
    apply Ev_Attr; (with_unfolding_all rfl)
    apply Ev_loc; assumption; k_allIn
    apply get_at; assumption; k_allIn; k_allIn; (first | exact cls117 | exact cls389 | exact cls579 | exact cls614 | exact cls636 | exact cls276); (k_dflt rfl); k_allIn
    apply EvL_cons; (k_dflt rfl)
    apply Ev_none
    apply EvL_nil
  refine pop1 (by k_allIn) (by k_allIn) fun _ => ?_
  with_reducible
    apply Ex_cons; assumption
    apply Ex_Expr; (k_dflt rfl); (k_dflt rfl)
  with_reducible refine Ev_meth (by with_unfolding_all rfl) (by k_dflt rfl) ?_
  with_reducible
    apply Ev_Attr; (with_unfolding_all rfl)
    apply Ev_loc; assumption; k_allIn
    apply get_at; assumption; k_allIn; k_allIn; (first | exact cls117 | exact cls389 | exact cls579 | exact cls614 | exact cls636 | exact cls276); (k_dflt rfl); k_allIn
    apply MethA.mk; apply m_dpop; k_allIn
    apply EvL_cons; (k_dflt rfl)
    apply Ev_Attr; (with_unfolding_all rfl)
    apply Ev_loc; assumption; k_allIn
    apply get_at; assumption; k_allIn; k_allIn; (first | exact cls117 | exact cls389 | exact cls579 | exact cls614 | exact cls636 | exact cls276); (k_dflt rfl); k_allIn
    apply EvL_cons; (k_dflt rfl)
    apply Ev_none
    apply EvL_nil
  refine pop1 (by k_allIn) (by k_allIn) fun _ => ?_
  with_reducible
    apply Ex_cons; assumption
    apply Ex_If
    apply EvB_Compare; (k_dflt rfl)
    apply Ev_Attr; (with_unfolding_all rfl)
    apply Ev_loc; assumption; k_allIn
    apply get_at; assumption; k_allIn; k_allIn; (first | exact cls117 | exact cls389 | exact cls579 | exact cls614 | exact cls636 | exact cls276); (k_dflt rfl); k_allIn
    apply Ev_none
    apply isnot_n
    apply truthy_b
    refine Two.f rfl ?_
    apply Ex_nil
    apply Ex_cons; assumption
    apply Ex_Assign; assumption; (k_dflt rfl)
    apply Ev_Attr; (with_unfolding_all rfl)
    apply Ev_loc; assumption; k_allIn
    apply get_at; assumption; k_allIn; k_allIn; (first | exact cls117 | exact cls389 | exact cls579 | exact cls614 | exact cls636 | exact cls276); (k_dflt rfl); k_allIn
    apply Stored.mk; k_allIn
    apply Ex_cons; assumption
    apply Ex_AssignAttr; (k_dflt rfl)
  refine Ev_methI (pl := _) O (by with_unfolding_all rfl) (by k_dflt rfl) ?_
  with_reducible
    apply Ev_loc; assumption; k_allIn
  refine MethI.mk (by k_allIn) (by k_allIn) mt_take (by k_dflt rfl) ?_
  with_reducible
    apply EvL_cons; (k_dflt rfl)
    apply Ev_loc; assumption; k_allIn
    apply EvL_nil
  refine OpL_FSe fs_take O hh (room_of hr rfl) (by decide) .nil ?_
  with_reducible
    apply Appd.mk; k_allIn
    apply Ev_loc; assumption; k_allIn
    apply set_at; assumption; k_allIn; k_allIn; k_allIn; (first | exact cls117 | exact cls389 | exact cls579 | exact cls614 | exact cls636 | exact cls276); (k_dflt rfl); (k_dflt exact Nat.le_of_ble_eq_true rfl); k_allIn
    apply Ex_cons; assumption
    apply Ex_Expr; (k_dflt rfl); (k_dflt rfl)
  refine Ev_methI (pl := _) O (by with_unfolding_all rfl) (by k_dflt rfl) ?_
  with_reducible
    apply Ev_loc; assumption; k_allIn
  refine MethI.mk (by k_allIn) (by k_allIn) mt_put_off (by k_dflt rfl) ?_
  with_reducible
    apply EvL_cons; (k_dflt rfl)
    apply Ev_loc; assumption; k_allIn
    apply EvL_cons; (k_dflt rfl)
    apply Ev_loc; assumption; k_allIn
    apply EvL_nil
  refine OpL_FS (fs_put_off hv) O hh (room_of hr rfl) (by decide) .nil ?_
  rintro _ _ rfl
  with_reducible
    apply Appd.mk; k_allIn
    apply Ex_nil
  exact Has.mk (by k_allIn) rfl


/-! ## the signs of a list -/
/-- one sign, as it stands in a list of signs -/
inductive Atom : List Nat → Nat → Bool → Prop
  | plain {c : Nat} (h : c ≠ 92) : Atom [c] c false
  | self {c : Nat} (h : selfC c) : Atom [92, c] c true
  | short {c d : Nat} (h : shortE.lookup ⟨#[c]⟩ = some ⟨#[d]⟩) : Atom [92, c] d true
  | zero : Atom [92, 48, 48, 48] 0 true
inductive Text : List Nat → List (Nat × Bool) → Prop
  | nil : Text [] []
  | cons {t r : List Nat} {c : Nat} {b : Bool} {sg : List (Nat × Bool)} : Atom t c b → Text r sg → Text (t ++ r) ((c, b) :: sg)
theorem Text.append {t u : List Nat} {sg sh : List (Nat × Bool)} (x : Text t sg) (y : Text u sh) : Text (t ++ u) (sg ++ sh) := by
  induction x with
  | nil => exact y
  | cons a _ ih => rw [List.append_assoc, List.cons_append]; exact .cons a ih
noncomputable abbrev sgA (p : Nat × Bool) : AV := .tup [.int (p.1 : Nat), .bool p.2]
theorem g407 : GOk (scf 407) [(S "len", .builtin "len"), (S "guarded_at", .ref 400), (S "ord", .builtin "ord")] := .cons (by decide +kernel) gl_len (.cons (by decide +kernel) gl_guarded_at (.cons (by decide +kernel) gl_ord .nil))
theorem sg_snoc (sg : List (Nat × Bool)) (c : Nat) (b : Bool) : sg.map sgA ++ [.tup [.int (c : Nat), .bool b]] = (sg ++ [(c, b)]).map sgA := by rw [List.map_append]; rfl
theorem at_app {l pre : List Nat} {rest : List Nat} {i : Nat} (h : l = pre ++ rest) (hi : pre.length = i) (j : Nat) : l[i + j]? = rest[j]? := by
  rw [h, List.getElem?_append_right (by omega)]; congr 1; omega
inductive J13 (x : Str) (fd : Addr) (sg : List (Nat × Bool)) (k : Nat) (loc : Loc) (led : Led) : Prop
  | intro (i : Nat) (sgd sgr : List (Nat × Bool)) (pre rest : List Nat) (sn : Option AV) (h1 : k = rest.length) (h2 : x.cps.toList = pre ++ rest) (h3 : pre.length = i) (h4 : Text rest sgr) (h5 : sg = sgd ++ sgr)
    (hl : loc = [(S "text", some (.str x)), (S "found", some (.ref fd)), (S "at", some (.int (i : Nat))), (S "sign", sn)]) (hd : led = [(fd, .list (sgd.map sgA))])
theorem fs_trans_signs {x : Str} {sg : List (Nat × Bool)} (T : Text x.cps.toList sg) (hz : x.length < 1000000) (hs : sg.length < 1000000) : FS 407 5 [.str x] [] fun v led => ∃ d, v = .ref d ∧ led = [(d, .list (sg.map sgA))] := by
  refine FS.intro (scf 407) [S "text"] [S "found", S "at", S "sign"] [(S "text", some (.str x)), (S "found", none), (S "at", none), (S "sign", none)] (fun P => by rfl) (fun P => by kernel_rfl!) (by rfl) rfl (len1 fun _ => rfl) (by decide +kernel) (by decide +kernel) (by rfl) (by rfl) (by rfl) (by decide +kernel) rfl ?_ (by decide)
  intro a O hr hh
  have G := g407
  have hx := len63 hz
  with_reducible
    apply Ex_cons; assumption
    apply Ex_Assign; assumption; (k_dflt rfl)
    apply Ev_List
    apply EvL_nil
    apply new_list; assumption; (k_dflt exact Nat.le_of_ble_eq_true rfl); intro _
    apply Stored.mk; k_allIn
    apply Ex_cons; assumption
    apply Ex_Assign; assumption; (k_dflt rfl)
    apply Ev_int
    apply Stored.mk; k_allIn
    apply Ex_cons; assumption
  rename_i fd
  have hl : x.cps.toList.length = x.length := by simp [Str.length]
  let J : Nat → Loc → Led → Prop := J13 x fd sg
  refine Ex_While O J x.cps.toList.length (Has.mk (led' := [(fd, .list [])]) (by k_allIn) ⟨0, [], sg, [], _, _, rfl, rfl, rfl, T, rfl, rfl, rfl⟩) ?_
  rintro h k loc led O _ ⟨i, sgd, sgr, pre, rest, sn, rfl, hp, hi, Tr, he, rfl, rfl⟩
  have fin : ∀ {t r : List Nat} {c : Nat} {b : Bool} {sgr' : List (Nat × Bool)} {sn : Option AV} {led' : Led} {j : Nat}, rest = t ++ r → 0 < t.length → j = i + t.length → Text r sgr' → sgr = (c, b) :: sgr' → led' = [(fd, .list (sgd.map sgA ++ [.tup [.int (c : Nat), .bool b]]))] →
      Has led' fun led => ∃ m, m < rest.length ∧ J m [(S "text", some (.str x)), (S "found", some (.ref fd)), (S "at", some (.int (j : Nat))), (S "sign", sn)] led := by
    rintro t r c b sgr' sn led' j e1 e2 rfl e4 e5 rfl
    refine Has.mk (led' := [(fd, .list (sgd.map sgA ++ [.tup [.int (c : Nat), .bool b]]))]) (by k_allIn) ⟨r.length, by rw [e1, List.length_append]; omega, _, sgd ++ [(c, b)], sgr', pre ++ t, r, sn, rfl, by rw [hp, e1, List.append_assoc], by rw [List.length_append, hi], e4, by rw [he, e5, List.append_assoc]; rfl, rfl, by rw [sg_snoc]⟩
  have hap : (sgd.map sgA).length ≤ 1000000 := by
    rw [List.length_map]
    have : sg.length = sgd.length + sgr.length := by rw [he, List.length_append]
    omega
  with_reducible
    apply EvB_Compare; (k_dflt rfl)
    apply Ev_loc; assumption; k_allIn
    apply Ev_callB; assumption; assumption; k_allIn; (k_dflt rfl)
    apply EvL_cons; (k_dflt rfl)
    apply Ev_loc; assumption; k_allIn
    apply EvL_nil
    apply len_s; assumption
    apply lt_ii
    apply truthy_b
  cases Tr with
  | nil =>
    have hlen : x.length = i := by rw [← hl, hp, List.append_nil, hi]
    refine .f (decide_eq_false (by omega)) ?_
    with_reducible
      apply Ex_cons; assumption
      apply Ex_Return
      apply Ev_loc; assumption; k_allIn
    refine Has.mk (led' := [(fd, .list (sgd.map sgA))]) (by k_allIn) ⟨fd, rfl, ?_⟩
    rw [he, List.append_nil]
  | @cons t r c b sgr' at_ Tr' =>
    have hlen : i + (t.length + r.length) = x.length := by rw [← hl, hp, List.length_append, List.length_append, hi]
    have ha : ∀ j, j < t.length → x.cps.toList[i + j]? = t[j]? := fun j hj => by rw [at_app hp hi, List.getElem?_append_left hj]
    cases at_ with
    | plain h =>
      have hc : x.cps.toList[i]? = some c := ha 0 (Nat.zero_lt_one)
      refine .t (decide_eq_true (by simp only [List.length_cons, List.length_nil] at hlen; omega)) ?_
      with_reducible
        apply Ex_cons; assumption
        apply Ex_If
        apply EvB_BoolOp
        apply all_cons
        apply EvB_Compare; (k_dflt rfl)
        apply Ev_Sub
        apply Ev_loc; assumption; k_allIn
        apply Ev_loc; assumption; k_allIn
      refine sub_sn hz hc (by intro _ _; with_unfolding_all rfl) (by intro _ _; rfl) ?_
      with_reducible
        apply Ev_str
        apply eq_ss
        apply truthy_b
      refine .f (one_ne h) ?_
      with_reducible
        refine Two.f rfl ?_
        apply Ex_cons; assumption
        apply Ex_Expr; (k_dflt rfl); (k_dflt rfl)
      with_reducible refine Ev_meth (by with_unfolding_all rfl) (by k_dflt rfl) ?_
      with_reducible
        apply Ev_loc; assumption; k_allIn
        apply MethA.mk; apply m_append; k_allIn
        apply EvL_cons; (k_dflt rfl)
        apply Ev_Tuple
        apply EvL_cons; (k_dflt rfl)
        apply Ev_callB; assumption; assumption; k_allIn; (k_dflt rfl)
        apply EvL_cons; (k_dflt rfl)
        apply Ev_Sub
        apply Ev_loc; assumption; k_allIn
        apply Ev_loc; assumption; k_allIn
      refine sub_sn hz hc (by intro _ _; with_unfolding_all rfl) (by intro _ _; rfl) ?_
      with_reducible
        apply EvL_nil
        apply ord_s
        apply EvL_cons; (k_dflt rfl)
        apply Ev_bool
        apply EvL_nil
        apply new_tuple; (k_dflt exact Nat.le_of_ble_eq_true rfl)
        apply EvL_nil
        apply append_l; k_allIn; k_allIn; assumption
        apply Ex_cons; assumption
        apply Ex_AugAssign; assumption; k_allIn
        apply Ev_int
        apply iadd_ii
        apply Stored.mk; k_allIn
        apply Ex_nil
        apply Ex_nil
      exact fin rfl Nat.zero_lt_one rfl Tr' rfl rfl
    | self h =>
      have h0 : x.cps.toList[i]? = some 92 := ha 0 (Nat.zero_lt_succ _)
      have h1 : x.cps.toList[i + 1]? = some c := ha 1 (Nat.succ_lt_succ (Nat.zero_lt_succ _))
      simp only [List.length_cons, List.length_nil] at hlen
      refine .t (decide_eq_true (by omega)) ?_
      with_reducible
        apply Ex_cons; assumption
        apply Ex_If
        apply EvB_BoolOp
        apply all_cons
        apply EvB_Compare; (k_dflt rfl)
        apply Ev_Sub
        apply Ev_loc; assumption; k_allIn
        apply Ev_loc; assumption; k_allIn
      refine sub_sn hz h0 (by intro _ _; with_unfolding_all rfl) (by intro _ _; rfl) ?_
      with_reducible
        apply Ev_str
        apply eq_ss
        apply truthy_b
        refine Two.t rfl ?_
        apply all_cons
        apply EvB_Compare; (k_dflt rfl)
        apply Ev_BinOp
        apply Ev_loc; assumption; k_allIn
        apply Ev_int
        apply add_ii
        apply Ev_callB; assumption; assumption; k_allIn; (k_dflt rfl)
        apply EvL_cons; (k_dflt rfl)
        apply Ev_loc; assumption; k_allIn
        apply EvL_nil
        apply len_s; assumption
        apply lt_ii
        apply truthy_b
      refine .t (decide_eq_true (by omega)) ?_
      with_reducible
        apply all_nil
        refine Two.t rfl ?_
        apply Ex_cons; assumption
        apply Ex_AssignTup; (k_dflt rfl); (k_dflt rfl)
      with_reducible refine Ev_call O G (by k_allIn) (fun w => by k_dflt kernel_rfl!) (by k_dflt rfl) ?_
      with_reducible
        apply EvL_cons; (k_dflt rfl)
        apply Ev_loc; assumption; k_allIn
        apply EvL_cons; (k_dflt rfl)
        apply Ev_loc; assumption; k_allIn
        apply EvL_nil
      refine OpL_FSe (fs_guarded (fs_escape_self hz h1 h) (fun _ _ h => h.2)) O hh (room_of hr rfl) (by decide) (by k_allIn) ?_
      with_reducible
        apply Appd.mk; k_allIn
        apply asn_2; assumption; (k_dflt assumption)
        apply Stored.mk; k_allIn
        apply Stored.mk; k_allIn
        apply Ex_cons; assumption
        apply Ex_Expr; (k_dflt rfl); (k_dflt rfl)
      with_reducible refine Ev_meth (by with_unfolding_all rfl) (by k_dflt rfl) ?_
      with_reducible
        apply Ev_loc; assumption; k_allIn
        apply MethA.mk; apply m_append; k_allIn
        apply EvL_cons; (k_dflt rfl)
        apply Ev_Tuple
        apply EvL_cons; (k_dflt rfl)
        apply Ev_callB; assumption; assumption; k_allIn; (k_dflt rfl)
        apply EvL_cons; (k_dflt rfl)
        apply Ev_loc; assumption; k_allIn
        apply EvL_nil
        apply ord_s
        apply EvL_cons; (k_dflt rfl)
        apply Ev_bool
        apply EvL_nil
        apply new_tuple; (k_dflt exact Nat.le_of_ble_eq_true rfl)
        apply EvL_nil
        apply append_l; k_allIn; k_allIn; assumption
        apply Ex_nil
        apply Ex_nil
      rw [show ((i : Int) + 2) = ((i + 2 : Nat) : Int) from rfl]
      exact fin rfl (Nat.zero_lt_succ _) rfl Tr' rfl rfl
    | short h =>
      rename_i c₀
      have h0 : x.cps.toList[i]? = some 92 := ha 0 (Nat.zero_lt_succ _)
      have h1 : x.cps.toList[i + 1]? = some c₀ := ha 1 (Nat.succ_lt_succ (Nat.zero_lt_succ _))
      simp only [List.length_cons, List.length_nil] at hlen
      refine .t (decide_eq_true (by omega)) ?_
      with_reducible
        apply Ex_cons; assumption
        apply Ex_If
        apply EvB_BoolOp
        apply all_cons
        apply EvB_Compare; (k_dflt rfl)
        apply Ev_Sub
        apply Ev_loc; assumption; k_allIn
        apply Ev_loc; assumption; k_allIn
      refine sub_sn hz h0 (by intro _ _; with_unfolding_all rfl) (by intro _ _; rfl) ?_
      with_reducible
        apply Ev_str
        apply eq_ss
        apply truthy_b
        refine Two.t rfl ?_
        apply all_cons
        apply EvB_Compare; (k_dflt rfl)
        apply Ev_BinOp
        apply Ev_loc; assumption; k_allIn
        apply Ev_int
        apply add_ii
        apply Ev_callB; assumption; assumption; k_allIn; (k_dflt rfl)
        apply EvL_cons; (k_dflt rfl)
        apply Ev_loc; assumption; k_allIn
        apply EvL_nil
        apply len_s; assumption
        apply lt_ii
        apply truthy_b
      refine .t (decide_eq_true (by omega)) ?_
      with_reducible
        apply all_nil
        refine Two.t rfl ?_
        apply Ex_cons; assumption
        apply Ex_AssignTup; (k_dflt rfl); (k_dflt rfl)
      with_reducible refine Ev_call O G (by k_allIn) (fun w => by k_dflt kernel_rfl!) (by k_dflt rfl) ?_
      with_reducible
        apply EvL_cons; (k_dflt rfl)
        apply Ev_loc; assumption; k_allIn
        apply EvL_cons; (k_dflt rfl)
        apply Ev_loc; assumption; k_allIn
        apply EvL_nil
      refine OpL_FSe (fs_guarded (fs_escape_short hz h1 h) (fun _ _ h => h.2)) O hh (room_of hr rfl) (by decide) (by k_allIn) ?_
      with_reducible
        apply Appd.mk; k_allIn
        apply asn_2; assumption; (k_dflt assumption)
        apply Stored.mk; k_allIn
        apply Stored.mk; k_allIn
        apply Ex_cons; assumption
        apply Ex_Expr; (k_dflt rfl); (k_dflt rfl)
      with_reducible refine Ev_meth (by with_unfolding_all rfl) (by k_dflt rfl) ?_
      with_reducible
        apply Ev_loc; assumption; k_allIn
        apply MethA.mk; apply m_append; k_allIn
        apply EvL_cons; (k_dflt rfl)
        apply Ev_Tuple
        apply EvL_cons; (k_dflt rfl)
        apply Ev_callB; assumption; assumption; k_allIn; (k_dflt rfl)
        apply EvL_cons; (k_dflt rfl)
        apply Ev_loc; assumption; k_allIn
        apply EvL_nil
        apply ord_s
        apply EvL_cons; (k_dflt rfl)
        apply Ev_bool
        apply EvL_nil
        apply new_tuple; (k_dflt exact Nat.le_of_ble_eq_true rfl)
        apply EvL_nil
        apply append_l; k_allIn; k_allIn; assumption
        apply Ex_nil
        apply Ex_nil
      rw [show ((i : Int) + 2) = ((i + 2 : Nat) : Int) from rfl]
      exact fin rfl (Nat.zero_lt_succ _) rfl Tr' rfl rfl
    | zero =>
      have h0 : x.cps.toList[i]? = some 92 := ha 0 (Nat.zero_lt_succ _)
      have h1 : ∀ j < 3, x.cps.toList[i + 1 + j]? = some 48 := by
        intro j hj
        have := ha (1 + j) (by show 1 + j < 4; omega)
        rw [Nat.add_assoc, this]
        match j, hj with
        | 0, _ => rfl
        | 1, _ => rfl
        | 2, _ => rfl
      simp only [List.length_cons, List.length_nil] at hlen
      refine .t (decide_eq_true (by omega)) ?_
      with_reducible
        apply Ex_cons; assumption
        apply Ex_If
        apply EvB_BoolOp
        apply all_cons
        apply EvB_Compare; (k_dflt rfl)
        apply Ev_Sub
        apply Ev_loc; assumption; k_allIn
        apply Ev_loc; assumption; k_allIn
      refine sub_sn hz h0 (by intro _ _; with_unfolding_all rfl) (by intro _ _; rfl) ?_
      with_reducible
        apply Ev_str
        apply eq_ss
        apply truthy_b
        refine Two.t rfl ?_
        apply all_cons
        apply EvB_Compare; (k_dflt rfl)
        apply Ev_BinOp
        apply Ev_loc; assumption; k_allIn
        apply Ev_int
        apply add_ii
        apply Ev_callB; assumption; assumption; k_allIn; (k_dflt rfl)
        apply EvL_cons; (k_dflt rfl)
        apply Ev_loc; assumption; k_allIn
        apply EvL_nil
        apply len_s; assumption
        apply lt_ii
        apply truthy_b
      refine .t (decide_eq_true (by omega)) ?_
      with_reducible
        apply all_nil
        refine Two.t rfl ?_
        apply Ex_cons; assumption
        apply Ex_AssignTup; (k_dflt rfl); (k_dflt rfl)
      with_reducible refine Ev_call O G (by k_allIn) (fun w => by k_dflt kernel_rfl!) (by k_dflt rfl) ?_
      with_reducible
        apply EvL_cons; (k_dflt rfl)
        apply Ev_loc; assumption; k_allIn
        apply EvL_cons; (k_dflt rfl)
        apply Ev_loc; assumption; k_allIn
        apply EvL_nil
      refine OpL_FSe (fs_guarded (fs_escape_zero hz h1) (fun _ _ h => h.2)) O hh (room_of hr rfl) (by decide) (by k_allIn) ?_
      with_reducible
        apply Appd.mk; k_allIn
        apply asn_2; assumption; (k_dflt assumption)
        apply Stored.mk; k_allIn
        apply Stored.mk; k_allIn
        apply Ex_cons; assumption
        apply Ex_Expr; (k_dflt rfl); (k_dflt rfl)
      with_reducible refine Ev_meth (by with_unfolding_all rfl) (by k_dflt rfl) ?_
      with_reducible
        apply Ev_loc; assumption; k_allIn
        apply MethA.mk; apply m_append; k_allIn
        apply EvL_cons; (k_dflt rfl)
        apply Ev_Tuple
        apply EvL_cons; (k_dflt rfl)
        apply Ev_callB; assumption; assumption; k_allIn; (k_dflt rfl)
        apply EvL_cons; (k_dflt rfl)
        apply Ev_loc; assumption; k_allIn
        apply EvL_nil
        apply ord_s
        apply EvL_cons; (k_dflt rfl)
        apply Ev_bool
        apply EvL_nil
        apply new_tuple; (k_dflt exact Nat.le_of_ble_eq_true rfl)
        apply EvL_nil
        apply append_l; k_allIn; k_allIn; assumption
        apply Ex_nil
        apply Ex_nil
      exact fin rfl (Nat.zero_lt_succ _) rfl Tr' rfl rfl


/-! ## Die made -/
theorem tk_text : ∀ w : World, (takerIn (KF w.params) 58 (S "text") == some none) = true := fun w => by kernel_rfl!
theorem tk_value : ∀ w : World, (takerIn (KF w.params) 58 (S "value") == some none) = true := fun w => by kernel_rfl!
theorem g35 : GOk (scf 35) [(S "Exception", .type "Exception")] := .cons (by decide +kernel) gl_Exception .nil
theorem fc_PerlError {x : Addr} {z : Str} : FCX 35 2 (fun vs => ⟨vs, []⟩) [.ref x, .str z] [(x, .exc none)] (fun v led => v = .none ∧ ∃ d, led = [(x, .exc (some d)), (d, .attrs [(S "text", .str z)])]) fun _ => False := by
  refine FCX.intro (scf 35) [S "self", S "text"] [] [.ref x, .str z] [(S "self", some (.ref x)), (S "text", some (.str z))] (fun P => by rfl) (fun P => by kernel_rfl!) (by rfl) rfl (fun {_ _ vs} _ hr => ⟨vs, hr, BindsTo.of_eq (len2 (P := fun vs => bindArgs _ ⟨vs, []⟩ = pure (([S "self", S "text"]).zip vs)) (fun _ _ => rfl) vs hr.length)⟩) (by decide +kernel) (by decide +kernel) (by rfl) (by rfl) (by rfl) (by decide +kernel) rfl ?_ (by decide)
  intro a O hr hh Z
  have G := g35
  with_reducible
    apply Ex_cons; assumption
    apply Ex_Expr; (k_dflt rfl); (k_dflt rfl)
  refine Ev_methT (id := "Exception.__init__") O G (by k_allIn) (by kernel_rfl) (by decide +kernel) (by decide +kernel) (fun w => by kernel_rfl!) (by with_unfolding_all rfl) (by k_dflt rfl) ?_
  with_reducible
    apply EvL_cons; (k_dflt rfl)
    apply Ev_loc; assumption; k_allIn
    apply EvL_cons; (k_dflt rfl)
    apply Ev_loc; assumption; k_allIn
    apply EvL_nil
  refine exc_init O (by k_allIn) (by k_allIn) ?_
  with_reducible
    apply Ex_cons; assumption
    apply Ex_AssignAttr; (k_dflt rfl)
    apply Ev_loc; assumption; k_allIn
    apply Ev_loc; assumption; k_allIn
  refine set_exc0 O tk_text (by k_allIn) fun d => ⟨[(x, .exc (some d))], by k_allIn, ?_⟩
  with_reducible
    apply Ex_nil
  exact Has.mk (led' := [(x, .exc (some d)), (d, .attrs [(S "text", .str z)])]) (by k_allIn) ⟨rfl, d, rfl⟩
theorem g55 : GOk (scf 55) [(S "PerlError", .ref 38)] := .cons (by decide +kernel) gl_PerlError .nil
theorem mc_PerlError : MethC 38 (S "__init__") 35 := fun w => by kernel_rfl!
theorem fc_Die {x : Addr} {z : Str} : FCX 55 3 (fun vs => ⟨vs, []⟩) [.ref x, .str z] [(x, .exc none)] (fun v led => v = .none ∧ ∃ d kvs, led = [(x, .exc (some d)), (d, .attrs kvs)]) fun _ => False := by
  refine FCX.intro (scf 55) [S "self", S "value"] [] [.ref x, .str z] [(S "self", some (.ref x)), (S "value", some (.str z))] (fun P => by rfl) (fun P => by kernel_rfl!) (by rfl) rfl (fun {_ _ vs} _ hr => ⟨vs, hr, BindsTo.of_eq (len2 (P := fun vs => bindArgs _ ⟨vs, []⟩ = pure (([S "self", S "value"]).zip vs)) (fun _ _ => rfl) vs hr.length)⟩) (by decide +kernel) (by decide +kernel) (by rfl) (by rfl) (by rfl) (by decide +kernel) rfl ?_ (by decide)
  intro a O hr hh Z
  have G := g55
  with_reducible
    apply Ex_cons; assumption
    apply Ex_Expr; (k_dflt rfl); (k_dflt rfl)
  refine Ev_methC O G (by k_allIn) mc_PerlError (by with_unfolding_all rfl) (by k_dflt rfl) ?_
  with_reducible
    apply EvL_cons; (k_dflt rfl)
    apply Ev_loc; assumption; k_allIn
    apply EvL_cons; (k_dflt rfl)
    apply Ev_str
    apply EvL_nil
  refine OpL_FS (FSX.of_code fc_PerlError) O hh (room_of hr rfl) (by decide) (by k_allIn) ?_
  rintro _ _ ⟨rfl, d, rfl⟩
  with_reducible
    apply Appd.mk; k_allIn
    apply Ex_cons; assumption
    apply Ex_AssignAttr; (k_dflt rfl)
    apply Ev_loc; assumption; k_allIn
    apply Ev_loc; assumption; k_allIn
  refine set_esnoc (kvs' := [(S "text", .str (S "died")), (S "value", .str z)]) O (by k_allIn) (by k_allIn) (by k_allIn) tk_value (by k_dflt rfl) (Nat.le_of_ble_eq_true rfl) (by k_allIn) ?_
  with_reducible
    apply Ex_nil
  exact Has.mk (led' := [(x, .exc (some d)), (d, .attrs [(S "text", .str (S "died")), (S "value", .str z)])]) (by k_allIn) ⟨rfl, d, _, rfl⟩
theorem dieInit : ∀ w : World, (findIn (KF w.params) (.ref 58) "__init__" == some (some (.ref 55)) && isFn (KF w.params) (.ref 55)) = true := fun w => by kernel_rfl!
theorem dieKeep : ∀ w : World, keepIn (KF w.params) (.ref 58) = true := fun w => by kernel_rfl!
theorem dieCls : ∀ w : World, ktsIn (KF w.params) 58 "BaseException" = true := fun w => by kernel_rfl!


/-! ## the codes of a list -/
noncomputable abbrev rngL (a b : Nat) : List Int := (List.range (b + 1 - a)).map fun i => ((a + i : Nat) : Int)
/-- what a list of signs means; with true: a range that runs back -/
inductive Parts : List (Nat × Bool) → List Int → Bool → Prop
  | nil : Parts [] [] false
  | one {c : Nat} {g : Bool} {sg : List (Nat × Bool)} {cs : List Int} {bad : Bool} : Parts sg cs bad → (sg.head? = some (45, false) → sg.length < 2) → Parts ((c, g) :: sg) ((c : Int) :: cs) bad
  | range {a b : Nat} {g g' : Bool} {sg : List (Nat × Bool)} {cs : List Int} {bad : Bool} : a ≤ b → Parts sg cs bad → Parts ((a, g) :: (45, false) :: (b, g') :: sg) (rngL a b ++ cs) bad
  | back {a b : Nat} {g g' : Bool} {sg : List (Nat × Bool)} {cs : List Int} : b < a → Parts ((a, g) :: (45, false) :: (b, g') :: sg) cs true
noncomputable def Fits (bad : Bool) (cs : List Int) (M : Nat) : Prop := bad = false ∧ cs.length ≤ M
theorem g414 : GOk (scf 414) [(S "trans_signs", .ref 407), (S "len", .builtin "len"), (S "Die", .ref 58), (S "range", .type "range")] := .cons (by decide +kernel) gl_trans_signs (.cons (by decide +kernel) gl_len (.cons (by decide +kernel) gl_Die (.cons (by decide +kernel) gl_range .nil)))
theorem rngL_len (a b : Nat) : (rngL a b).length = b + 1 - a := by unfold rngL; rw [List.length_map, List.length_range]
theorem sg_get {sg sgd sgr : List (Nat × Bool)} {i : Nat} (he : sg = sgd ++ sgr) (hi : sgd.length = i) (j : Nat) : (sg.map sgA)[i + j]? = (sgr[j]?).map sgA := by
  rw [List.getElem?_map, he, List.getElem?_append_right (by omega)]; congr 2; omega
section
variable {sc : Scope} {a : Act sc} {loc : Loc} {led : Led} {K : KV}
theorem sub_sg {value slice : Expr} {d : Addr} {sg : List (Nat × Bool)} {i : Nat} {p : Nat × Bool} (g : GetO d (.list (sg.map sgA)) led) (hz : sg.length < 1000000) (hp : (sg.map sgA)[i]? = some (sgA p))
    (hs : ∀ t, subscripted slice false (.ref d) (.int (i : Nat) t) = operate [.ref d, .int (i : Nat) t] (getItem (.ref d) (.int (i : Nat) t))) (k : K (sgA p) loc led) : Op2 a (subscriptTail value slice) (.ref d) (.int (i : Nat)) loc led K := by
  have hi := (List.getElem?_eq_some_iff.mp hp).1
  rw [List.length_map] at hi
  exact sub_list g (Int.natCast_nonneg _) (by omega) (by rw [Int.toNat_natCast]; exact hp) hs k
end
theorem rng_map (a n : Nat) : (List.range n).map (fun i => ((a + i : Nat) : Int)) ++ [((a + n : Nat) : Int)] = (List.range (n + 1)).map fun i => ((a + i : Nat) : Int) := by
  rw [List.range_succ, List.map_append]; rfl
theorem lst_snoc (xs : List Int) (i : Int) : lst (xs ++ [i]) = lst xs ++ [.int i] := by
  show List.map _ _ = _
  rw [List.map_append]; rfl
theorem rngL_self (c : Nat) : rngL c c = [(c : Int)] := by
  rw [show rngL c c = (List.range (c + 1 - c)).map fun i => ((c + i : Nat) : Int) from rfl, Nat.add_sub_cancel_left]; rfl
theorem rng_map' (a n : Nat) : (List.range n).map (fun i => ((a + i : Nat) : Int)) ++ [(a : Int) + (n : Int)] = (List.range (n + 1)).map fun i => ((a + i : Nat) : Int) := rng_map a n
theorem iter_ab {sc : Scope} {a : Act sc} {loc : Loc} {led : Led} {r : Addr} {x y : Nat} (O : a.Ok) (H : a.hd = true) (hx : x < 2 ^ 30) (hy : y < 2 ^ 30) : IterOf a (.ref r) (rng (x : Nat) (y + 1 - x)) [(r, .range (x : Nat) ((y : Nat) + 1))] loc led := by
  have := iter_range (loc := loc) (led := led) (r := r) (lo := (x : Nat)) (hi := (y : Nat) + 1) O H (by omega) (by omega) (by omega) (by omega)
  have e : ((y : Int) + 1 - (x : Nat)).toNat = y + 1 - x := by omega
  rw [e] at this
  exact this
inductive J15 (x : Str) (M : Nat) (sd fd : Addr) (sg : List (Nat × Bool)) (cs : List Int) (bad : Bool) (k : Nat) (loc : Loc) (led : Led) : Prop
  | intro (i : Nat) (sgd sgr : List (Nat × Bool)) (done cr : List Int) (c1 c2 c3 : Option AV) (h1 : k = sgr.length) (h2 : sg = sgd ++ sgr) (h3 : sgd.length = i) (h4 : Parts sgr cr bad) (h5 : done.length ≤ M) (h6 : bad = false → cs = done ++ cr)
    (hl : loc = [(S "text", some (.str x)), (S "most", some (.int (M : Nat))), (S "signs", some (.ref sd)), (S "found", some (.ref fd)), (S "at", some (.int (i : Nat))), (S "code", c1), (S "last", c2), (S "one", c3)]) (hd : led = [(sd, .list (sg.map sgA)), (fd, .list (lst done))])
theorem fs_trans_codes {x : Str} {sg : List (Nat × Bool)} {cs : List Int} {bad : Bool} {M : Nat} (T : Text x.cps.toList sg) (Pt : Parts sg cs bad) (hz : x.length < 1000000) (hs : sg.length < 100000) (hM : M < 1000) (hb : ∀ p ∈ sg, p.1 < 2 ^ 30) :
    FSX 414 6 [.str x, .int (M : Nat)] [] (fun v led => Fits bad cs M ∧ ∃ d, v = .ref d ∧ led = [(d, .list (lst cs))]) fun led => ¬ Fits bad cs M ∧ led = [] := by
  refine FSX.intro (scf 414) [S "text", S "most"] [S "signs", S "found", S "at", S "code", S "last", S "one"] [(S "text", some (.str x)), (S "most", some (.int (M : Nat))), (S "signs", none), (S "found", none), (S "at", none), (S "code", none), (S "last", none), (S "one", none)] (fun P => by rfl) (fun P => by kernel_rfl!) (by rfl) rfl (len2 fun _ _ => rfl) (by decide +kernel) (by decide +kernel) (by rfl) (by rfl) (by rfl) (by decide +kernel) rfl ?_ (by decide)
  intro a O hr hh Z
  have G := g414
  with_reducible
    apply Ex_cons; assumption
    apply Ex_Assign; assumption; (k_dflt rfl)
  with_reducible refine Ev_call O G (by k_allIn) (fun w => by k_dflt kernel_rfl!) (by k_dflt rfl) ?_
  with_reducible
    apply EvL_cons; (k_dflt rfl)
    apply Ev_loc; assumption; k_allIn
    apply EvL_nil
  refine OpL_FS (fs_trans_signs T hz (Nat.lt_trans hs (by decide))) O hh (room_of hr rfl) (by decide) (by k_allIn) ?_
  rintro _ _ ⟨sd, rfl, rfl⟩
  with_reducible
    apply Appd.mk; k_allIn
    apply Stored.mk; k_allIn
    apply Ex_cons; assumption
    apply Ex_Assign; assumption; (k_dflt rfl)
    apply Ev_List
    apply EvL_nil
    apply new_list; assumption; (k_dflt exact Nat.le_of_ble_eq_true rfl); intro _
    apply Stored.mk; k_allIn
    apply Ex_cons; assumption
    apply Ex_Assign; assumption; (k_dflt rfl)
    apply Ev_int
    apply Stored.mk; k_allIn
    apply Ex_cons; assumption
  rename_i fd
  obtain ⟨G0, hG0⟩ : ∃ G0, G0 = Fits bad cs M := ⟨_, rfl⟩
  rw [← hG0] at Z ⊢
  let J : Nat → Loc → Led → Prop := J15 x M sd fd sg cs bad
  refine Ex_While O J sg.length (Has.mk (led' := [(sd, .list (sg.map sgA)), (fd, .list [])]) (by k_allIn) ⟨0, [], sg, [], cs, _, _, _, rfl, rfl, rfl, Pt, Nat.zero_le _, fun _ => rfl, rfl, rfl⟩) ?_
  rintro h k loc led O hZ ⟨i, sgd, sgr, done, cr, c1, c2, c3, rfl, he, hi, hP, hd, hcs, rfl, rfl⟩
  have Z := hZ _ Z
  have hlen : sg.length = i + sgr.length := by rw [he, List.length_append, hi]
  have hg := sg_get he hi
  with_reducible
    apply EvB_Compare; (k_dflt rfl)
    apply Ev_loc; assumption; k_allIn
    apply Ev_callB; assumption; assumption; k_allIn; (k_dflt rfl)
    apply EvL_cons; (k_dflt rfl)
    apply Ev_loc; assumption; k_allIn
    apply EvL_nil
    apply len_list; k_allIn; (k_dflt (simp only [List.length_map, List.length_append, List.length_cons, List.length_nil] <;> omega))
    apply lt_ii
    apply truthy_b
  rw [List.length_map]
  cases hP with
  | nil =>
    refine .f (decide_eq_false (by simp only [List.length_nil] at hlen; omega)) ?_
    with_reducible
      apply Ex_cons; assumption
      apply Ex_Return
      apply Ev_loc; assumption; k_allIn
    refine Has.mk (led' := [(fd, .list (lst done))]) (by k_allIn) ⟨?_, fd, rfl, ?_⟩
    · rw [hG0]
      refine ⟨rfl, ?_⟩
      rw [hcs rfl, List.append_nil]; exact hd
    · rw [hcs rfl, List.append_nil]
  | @one c g sgr' cr' _ hP' hne =>
    have hbc : c < 2 ^ 30 := hb (c, g) (by rw [he]; exact List.mem_append_right _ (.head _))
    simp only [List.length_cons] at hlen
    refine .t (decide_eq_true (by omega)) ?_
    with_reducible
      apply Ex_cons; assumption
      apply Ex_Assign; assumption; (k_dflt rfl)
      apply Ev_Sub
      apply Ev_Sub
      apply Ev_loc; assumption; k_allIn
      apply Ev_loc; assumption; k_allIn
    refine sub_sg (p := (c, g)) (by k_allIn) (Nat.lt_trans hs (by decide)) (by have := hg 0; rw [Nat.add_zero] at this; rw [this]; rfl) (by intro _; with_unfolding_all rfl) ?_
    with_reducible
      apply Ev_int
    refine sub_tup (x := .int (c : Nat)) (by decide) (by decide) rfl (by intro _ _; with_unfolding_all rfl) ?_
    with_reducible
      apply Stored.mk; k_allIn
      apply Ex_cons; assumption
      apply Ex_Assign; assumption; (k_dflt rfl)
      apply Ev_loc; assumption; k_allIn
      apply Stored.mk; k_allIn
      apply Ex_cons; assumption
      apply Ex_If
      apply EvB_BoolOp
      apply all_cons
      apply EvB_Compare; (k_dflt rfl)
      apply Ev_BinOp
      apply Ev_loc; assumption; k_allIn
      apply Ev_int
      apply add_ii
      apply Ev_callB; assumption; assumption; k_allIn; (k_dflt rfl)
      apply EvL_cons; (k_dflt rfl)
      apply Ev_loc; assumption; k_allIn
      apply EvL_nil
      apply len_list; k_allIn; (k_dflt (simp only [List.length_map, List.length_append, List.length_cons, List.length_nil] <;> omega))
      apply lt_ii
      apply truthy_b
    rw [List.length_map]
    refine two_share ?_ fun e q => ?_
    rotate_left
    · have e := of_decide_eq_true e
      obtain ⟨q1, q2, r, rfl⟩ : ∃ q1 q2 r, sgr' = q1 :: q2 :: r := by
        cases sgr' with
        | nil => simp only [List.length_nil] at hlen; omega
        | cons q1 r => cases r with
          | nil => simp only [List.length_cons, List.length_nil] at hlen; omega
          | cons q2 r => exact ⟨q1, q2, r, rfl⟩
      with_reducible
        apply all_cons
        apply EvB_Compare; (k_dflt rfl)
        apply Ev_Sub
        apply Ev_loc; assumption; k_allIn
        apply Ev_BinOp
        apply Ev_loc; assumption; k_allIn
        apply Ev_int
        apply add_ii
      refine sub_sg (i := i + 1) (p := q1) (by k_allIn) (Nat.lt_trans hs (by decide)) (by rw [hg 1]; rfl) (by intro _; with_unfolding_all rfl) ?_
      with_reducible
        apply Ev_Tuple
        apply EvL_cons; (k_dflt rfl)
        apply Ev_int
        apply EvL_cons; (k_dflt rfl)
        apply Ev_bool
        apply EvL_nil
        apply new_tuple; (k_dflt exact Nat.le_of_ble_eq_true rfl)
        apply eq_tib; assumption
        apply truthy_b
      refine .f ?_ q
      by_cases h45 : q1 = (45, false)
      · have := hne (by rw [h45]; rfl)
        simp only [List.length_cons] at this
        omega
      · obtain ⟨k, w⟩ := q1
        by_cases hk : k = 45
        · subst hk
          cases w with
          | false => exact absurd rfl h45
          | true => rw [Bool.and_eq_false_iff]; exact .inr rfl
        · rw [Bool.and_eq_false_iff]; exact .inl (beq_eq_false_iff_ne.mpr (by omega))
    with_reducible
      refine Two.f rfl ?_
      apply Ex_nil
      apply Ex_cons; assumption
      apply Ex_If
      apply EvB_Compare; (k_dflt rfl)
      apply Ev_BinOp
      apply Ev_BinOp
      apply Ev_callB; assumption; assumption; k_allIn; (k_dflt rfl)
      apply EvL_cons; (k_dflt rfl)
      apply Ev_loc; assumption; k_allIn
      apply EvL_nil
      apply len_list; k_allIn; (k_dflt (simp only [List.length_map, List.length_append, List.length_cons, List.length_nil] <;> omega))
      apply Ev_loc; assumption; k_allIn
      apply add_ii
      apply Ev_loc; assumption; k_allIn
      apply sub_ii
      apply Ev_loc; assumption; k_allIn
      apply ge_ii
      apply truthy_b
    · refine ⟨fun hb => ?_, fun hb => ?_⟩
      · have hb := of_decide_eq_true hb
        rw [List.length_map] at hb
        with_reducible
          apply Ex_cons; assumption
        refine Ex_RaiseDie (fun x z => fc_Die) O hh (by show 3 < a.room; rw [hr]; decide) (by decide) Z dieInit dieKeep G (by k_allIn) (by k_dflt rfl) ?_
        with_reducible
          apply EvL_cons; (k_dflt rfl)
          apply Ev_str
          apply EvL_nil
        refine ⟨_, rfl, Has.mk (led' := []) .nil ⟨fun hF => ?_, rfl⟩⟩
        rw [hG0] at hF
        have h1 := hcs hF.1
        have h2 := hF.2
        rw [h1, List.length_append, List.length_cons] at h2
        omega
      · have hb := of_decide_eq_false hb
        rw [List.length_map] at hb
        with_reducible
          apply Ex_nil
          apply Ex_cons; assumption
          apply Ex_For; assumption; (intro _; k_dflt rfl)
          apply Ev_callT; assumption; assumption; k_allIn; (k_dflt rfl)
          apply EvL_cons; (k_dflt rfl)
          apply Ev_loc; assumption; k_allIn
          apply EvL_cons; (k_dflt rfl)
          apply Ev_BinOp
          apply Ev_loc; assumption; k_allIn
          apply Ev_int
          apply add_ii
          apply EvL_nil
          apply range_2; assumption; intro _
        refine ForA.mk (rng (c : Nat) (c + 1 - c)) [_] _ (fun j loc led => ∃ c3, loc = [(S "text", some (.str x)), (S "most", some (.int (M : Nat))), (S "signs", some (.ref sd)), (S "found", some (.ref fd)), (S "at", some (.int (i : Nat))), (S "code", some (.int (c : Nat))), (S "last", some (.int (c : Nat))), (S "one", c3)] ∧
          led = [(sd, .list (sg.map sgA)), (fd, .list (lst (done ++ (List.range j).map fun i => ((c + i : Nat) : Int))))]) (.cons .here .nil) (iter_ab O hh hbc hbc) (Has.mk (led' := [(sd, .list (sg.map sgA)), (fd, .list (lst done))]) (by k_allIn) ⟨_, rfl, by rw [List.range_zero, List.map_nil, List.append_nil]⟩) ?_ ?_
        · rintro h2 j av loc led O _ hav ⟨c3, rfl, rfl⟩
          obtain ⟨hj, rfl⟩ := rng_get hav
          have hl2 : (lst (done ++ (List.range j).map fun i => ((c + i : Nat) : Int))).length ≤ 1000000 := by rw [List.length_map, List.length_append, List.length_map, List.length_range]; omega
          with_reducible
            apply asn_name; assumption; k_allIn
            apply Ex_cons; assumption
            apply Ex_Expr; (k_dflt rfl); (k_dflt rfl)
          with_reducible refine Ev_meth (by with_unfolding_all rfl) (by k_dflt rfl) ?_
          with_reducible
            apply Ev_loc; assumption; k_allIn
            apply MethA.mk; apply m_append; k_allIn
            apply EvL_cons; (k_dflt rfl)
            apply Ev_loc; assumption; k_allIn
            apply EvL_nil
            apply append_l; k_allIn; k_allIn; assumption
            apply Ex_nil
          refine Has.mk (led' := [(sd, .list (sg.map sgA)), (fd, .list (lst (done ++ (List.range j).map fun i => ((c + i : Nat) : Int)) ++ [.int ((c : Nat) + (j : Nat))]))]) (by k_allIn) ⟨_, rfl, ?_⟩
          rw [← rng_map', ← List.append_assoc, lst_snoc]
        · rintro loc led ⟨c3, rfl, rfl⟩
          rw [rng_len]
          with_reducible
            apply Appd.mk; k_allIn
            apply Ex_cons; assumption
            apply Ex_AugAssign; assumption; k_allIn
            apply Ev_int
            apply iadd_ii
            apply Stored.mk; k_allIn
            apply Ex_nil
          refine Has.mk (led' := [(sd, .list (sg.map sgA)), (fd, .list (lst (done ++ rngL c c)))]) (by k_allIn) ⟨sgr'.length, by simp only [List.length_cons]; omega, i + 1, sgd ++ [(c, g)], sgr', done ++ rngL c c, cr', _, _, _, rfl, by rw [he, List.append_assoc]; rfl, by rw [List.length_append, hi]; rfl, hP', by rw [List.length_append, rngL_len]; omega, fun hb => by rw [hcs hb, List.append_assoc, rngL_self, List.singleton_append], rfl, rfl⟩
  | @range b d g g' sgr' cr' _ hle hP' =>
    have hbb : b < 2 ^ 30 := hb (b, g) (by rw [he]; exact List.mem_append_right _ (.head _))
    have hbd : d < 2 ^ 30 := hb (d, g') (by rw [he]; exact List.mem_append_right _ (.tail _ (.tail _ (.head _))))
    simp only [List.length_cons] at hlen
    refine .t (decide_eq_true (by omega)) ?_
    with_reducible
      apply Ex_cons; assumption
      apply Ex_Assign; assumption; (k_dflt rfl)
      apply Ev_Sub
      apply Ev_Sub
      apply Ev_loc; assumption; k_allIn
      apply Ev_loc; assumption; k_allIn
    refine sub_sg (p := (b, g)) (by k_allIn) (Nat.lt_trans hs (by decide)) (by have := hg 0; rw [Nat.add_zero] at this; rw [this]; rfl) (by intro _; with_unfolding_all rfl) ?_
    with_reducible
      apply Ev_int
    refine sub_tup (x := .int (b : Nat)) (by decide) (by decide) rfl (by intro _ _; with_unfolding_all rfl) ?_
    with_reducible
      apply Stored.mk; k_allIn
      apply Ex_cons; assumption
      apply Ex_Assign; assumption; (k_dflt rfl)
      apply Ev_loc; assumption; k_allIn
      apply Stored.mk; k_allIn
      apply Ex_cons; assumption
      apply Ex_If
      apply EvB_BoolOp
      apply all_cons
      apply EvB_Compare; (k_dflt rfl)
      apply Ev_BinOp
      apply Ev_loc; assumption; k_allIn
      apply Ev_int
      apply add_ii
      apply Ev_callB; assumption; assumption; k_allIn; (k_dflt rfl)
      apply EvL_cons; (k_dflt rfl)
      apply Ev_loc; assumption; k_allIn
      apply EvL_nil
      apply len_list; k_allIn; (k_dflt (simp only [List.length_map, List.length_append, List.length_cons, List.length_nil] <;> omega))
      apply lt_ii
      apply truthy_b
    rw [List.length_map]
    refine .t (decide_eq_true (by omega)) ?_
    with_reducible
      apply all_cons
      apply EvB_Compare; (k_dflt rfl)
      apply Ev_Sub
      apply Ev_loc; assumption; k_allIn
      apply Ev_BinOp
      apply Ev_loc; assumption; k_allIn
      apply Ev_int
      apply add_ii
    refine sub_sg (i := i + 1) (p := (45, false)) (by k_allIn) (Nat.lt_trans hs (by decide)) (by rw [hg 1]; rfl) (by intro _; with_unfolding_all rfl) ?_
    with_reducible
      apply Ev_Tuple
      apply EvL_cons; (k_dflt rfl)
      apply Ev_int
      apply EvL_cons; (k_dflt rfl)
      apply Ev_bool
      apply EvL_nil
      apply new_tuple; (k_dflt exact Nat.le_of_ble_eq_true rfl)
      apply eq_tib; assumption
      apply truthy_b
      refine Two.t rfl ?_
      apply all_nil
      refine Two.t rfl ?_
      apply Ex_cons; assumption
      apply Ex_Assign; assumption; (k_dflt rfl)
      apply Ev_Sub
      apply Ev_Sub
      apply Ev_loc; assumption; k_allIn
      apply Ev_BinOp
      apply Ev_loc; assumption; k_allIn
      apply Ev_int
      apply add_ii
    refine sub_sg (i := i + 2) (p := (d, g')) (by k_allIn) (Nat.lt_trans hs (by decide)) (by rw [hg 2]; rfl) (by intro _; with_unfolding_all rfl) ?_
    with_reducible
      apply Ev_int
    refine sub_tup (x := .int (d : Nat)) (by decide) (by decide) rfl (by intro _ _; with_unfolding_all rfl) ?_
    with_reducible
      apply Stored.mk; k_allIn
      apply Ex_cons; assumption
      apply Ex_If
      apply EvB_Compare; (k_dflt rfl)
      apply Ev_loc; assumption; k_allIn
      apply Ev_loc; assumption; k_allIn
      apply lt_ii
      apply truthy_b
    refine .f (decide_eq_false (by omega)) ?_
    with_reducible
      apply Ex_nil
      apply Ex_cons; assumption
      apply Ex_AugAssign; assumption; k_allIn
      apply Ev_int
      apply iadd_ii
      apply Stored.mk; k_allIn
      apply Ex_nil
      apply Ex_cons; assumption
      apply Ex_If
      apply EvB_Compare; (k_dflt rfl)
      apply Ev_BinOp
      apply Ev_BinOp
      apply Ev_callB; assumption; assumption; k_allIn; (k_dflt rfl)
      apply EvL_cons; (k_dflt rfl)
      apply Ev_loc; assumption; k_allIn
      apply EvL_nil
      apply len_list; k_allIn; (k_dflt (simp only [List.length_map, List.length_append, List.length_cons, List.length_nil] <;> omega))
      apply Ev_loc; assumption; k_allIn
      apply add_ii
      apply Ev_loc; assumption; k_allIn
      apply sub_ii
      apply Ev_loc; assumption; k_allIn
      apply ge_ii
      apply truthy_b
    rw [show ((i : Int) + 2) = ((i + 2 : Nat) : Int) from rfl]
    · refine ⟨fun hb => ?_, fun hb => ?_⟩
      · have hb := of_decide_eq_true hb
        rw [List.length_map] at hb
        with_reducible
          apply Ex_cons; assumption
        refine Ex_RaiseDie (fun x z => fc_Die) O hh (by show 3 < a.room; rw [hr]; decide) (by decide) Z dieInit dieKeep G (by k_allIn) (by k_dflt rfl) ?_
        with_reducible
          apply EvL_cons; (k_dflt rfl)
          apply Ev_str
          apply EvL_nil
        refine ⟨_, rfl, Has.mk (led' := []) .nil ⟨fun hF => ?_, rfl⟩⟩
        rw [hG0] at hF
        have h1 := hcs hF.1
        have h2 := hF.2
        rw [h1, List.length_append, List.length_append, rngL_len] at h2
        omega
      · have hb := of_decide_eq_false hb
        rw [List.length_map] at hb
        with_reducible
          apply Ex_nil
          apply Ex_cons; assumption
          apply Ex_For; assumption; (intro _; k_dflt rfl)
          apply Ev_callT; assumption; assumption; k_allIn; (k_dflt rfl)
          apply EvL_cons; (k_dflt rfl)
          apply Ev_loc; assumption; k_allIn
          apply EvL_cons; (k_dflt rfl)
          apply Ev_BinOp
          apply Ev_loc; assumption; k_allIn
          apply Ev_int
          apply add_ii
          apply EvL_nil
          apply range_2; assumption; intro _
        refine ForA.mk (rng (b : Nat) (d + 1 - b)) [_] _ (fun j loc led => ∃ c3, loc = [(S "text", some (.str x)), (S "most", some (.int (M : Nat))), (S "signs", some (.ref sd)), (S "found", some (.ref fd)), (S "at", some (.int (i + 2 : Nat))), (S "code", some (.int (b : Nat))), (S "last", some (.int (d : Nat))), (S "one", c3)] ∧
          led = [(sd, .list (sg.map sgA)), (fd, .list (lst (done ++ (List.range j).map fun i => ((b + i : Nat) : Int))))]) (.cons .here .nil) (iter_ab O hh hbb hbd) (Has.mk (led' := [(sd, .list (sg.map sgA)), (fd, .list (lst done))]) (by k_allIn) ⟨_, rfl, by rw [List.range_zero, List.map_nil, List.append_nil]⟩) ?_ ?_
        · rintro h2 j av loc led O _ hav ⟨c3, rfl, rfl⟩
          obtain ⟨hj, rfl⟩ := rng_get hav
          have hl2 : (lst (done ++ (List.range j).map fun i => ((b + i : Nat) : Int))).length ≤ 1000000 := by rw [List.length_map, List.length_append, List.length_map, List.length_range]; omega
          with_reducible
            apply asn_name; assumption; k_allIn
            apply Ex_cons; assumption
            apply Ex_Expr; (k_dflt rfl); (k_dflt rfl)
          with_reducible refine Ev_meth (by with_unfolding_all rfl) (by k_dflt rfl) ?_
          with_reducible
            apply Ev_loc; assumption; k_allIn
            apply MethA.mk; apply m_append; k_allIn
            apply EvL_cons; (k_dflt rfl)
            apply Ev_loc; assumption; k_allIn
            apply EvL_nil
            apply append_l; k_allIn; k_allIn; assumption
            apply Ex_nil
          refine Has.mk (led' := [(sd, .list (sg.map sgA)), (fd, .list (lst (done ++ (List.range j).map fun i => ((b + i : Nat) : Int)) ++ [.int ((b : Nat) + (j : Nat))]))]) (by k_allIn) ⟨_, rfl, ?_⟩
          rw [← rng_map', ← List.append_assoc, lst_snoc]
        · rintro loc led ⟨c3, rfl, rfl⟩
          rw [rng_len]
          with_reducible
            apply Appd.mk; k_allIn
            apply Ex_cons; assumption
            apply Ex_AugAssign; assumption; k_allIn
            apply Ev_int
            apply iadd_ii
            apply Stored.mk; k_allIn
            apply Ex_nil
          refine Has.mk (led' := [(sd, .list (sg.map sgA)), (fd, .list (lst (done ++ rngL b d)))]) (by k_allIn) ⟨sgr'.length, by simp only [List.length_cons]; omega, i + 3, sgd ++ [(b, g), (45, false), (d, g')], sgr', done ++ rngL b d, cr', _, _, _, rfl, by rw [he, List.append_assoc]; rfl, by rw [List.length_append, hi]; rfl, hP', by rw [List.length_append, rngL_len]; omega, fun hb => by rw [hcs hb, List.append_assoc], rfl, rfl⟩
  | @back b d g g' sgr' cr' hlt =>
    simp only [List.length_cons] at hlen
    refine .t (decide_eq_true (by omega)) ?_
    with_reducible
      apply Ex_cons; assumption
      apply Ex_Assign; assumption; (k_dflt rfl)
      apply Ev_Sub
      apply Ev_Sub
      apply Ev_loc; assumption; k_allIn
      apply Ev_loc; assumption; k_allIn
    refine sub_sg (p := (b, g)) (by k_allIn) (Nat.lt_trans hs (by decide)) (by have := hg 0; rw [Nat.add_zero] at this; rw [this]; rfl) (by intro _; with_unfolding_all rfl) ?_
    with_reducible
      apply Ev_int
    refine sub_tup (x := .int (b : Nat)) (by decide) (by decide) rfl (by intro _ _; with_unfolding_all rfl) ?_
    with_reducible
      apply Stored.mk; k_allIn
      apply Ex_cons; assumption
      apply Ex_Assign; assumption; (k_dflt rfl)
      apply Ev_loc; assumption; k_allIn
      apply Stored.mk; k_allIn
      apply Ex_cons; assumption
      apply Ex_If
      apply EvB_BoolOp
      apply all_cons
      apply EvB_Compare; (k_dflt rfl)
      apply Ev_BinOp
      apply Ev_loc; assumption; k_allIn
      apply Ev_int
      apply add_ii
      apply Ev_callB; assumption; assumption; k_allIn; (k_dflt rfl)
      apply EvL_cons; (k_dflt rfl)
      apply Ev_loc; assumption; k_allIn
      apply EvL_nil
      apply len_list; k_allIn; (k_dflt (simp only [List.length_map, List.length_append, List.length_cons, List.length_nil] <;> omega))
      apply lt_ii
      apply truthy_b
    rw [List.length_map]
    refine .t (decide_eq_true (by omega)) ?_
    with_reducible
      apply all_cons
      apply EvB_Compare; (k_dflt rfl)
      apply Ev_Sub
      apply Ev_loc; assumption; k_allIn
      apply Ev_BinOp
      apply Ev_loc; assumption; k_allIn
      apply Ev_int
      apply add_ii
    refine sub_sg (i := i + 1) (p := (45, false)) (by k_allIn) (Nat.lt_trans hs (by decide)) (by rw [hg 1]; rfl) (by intro _; with_unfolding_all rfl) ?_
    with_reducible
      apply Ev_Tuple
      apply EvL_cons; (k_dflt rfl)
      apply Ev_int
      apply EvL_cons; (k_dflt rfl)
      apply Ev_bool
      apply EvL_nil
      apply new_tuple; (k_dflt exact Nat.le_of_ble_eq_true rfl)
      apply eq_tib; assumption
      apply truthy_b
      refine Two.t rfl ?_
      apply all_nil
      refine Two.t rfl ?_
      apply Ex_cons; assumption
      apply Ex_Assign; assumption; (k_dflt rfl)
      apply Ev_Sub
      apply Ev_Sub
      apply Ev_loc; assumption; k_allIn
      apply Ev_BinOp
      apply Ev_loc; assumption; k_allIn
      apply Ev_int
      apply add_ii
    refine sub_sg (i := i + 2) (p := (d, g')) (by k_allIn) (Nat.lt_trans hs (by decide)) (by rw [hg 2]; rfl) (by intro _; with_unfolding_all rfl) ?_
    with_reducible
      apply Ev_int
    refine sub_tup (x := .int (d : Nat)) (by decide) (by decide) rfl (by intro _ _; with_unfolding_all rfl) ?_
    with_reducible
      apply Stored.mk; k_allIn
      apply Ex_cons; assumption
      apply Ex_If
      apply EvB_Compare; (k_dflt rfl)
      apply Ev_loc; assumption; k_allIn
      apply Ev_loc; assumption; k_allIn
      apply lt_ii
      apply truthy_b
    refine .t (decide_eq_true (by omega)) ?_
    with_reducible
      apply Ex_cons; assumption
    refine Ex_RaiseDie (fun x z => fc_Die) O hh (by show 3 < a.room; rw [hr]; decide) (by decide) Z dieInit dieKeep G (by k_allIn) (by k_dflt rfl) ?_
    with_reducible
      apply EvL_cons; (k_dflt rfl)
      apply Ev_str
      apply EvL_nil
    refine ⟨_, rfl, Has.mk (led' := []) .nil ⟨fun hF => ?_, rfl⟩⟩
    rw [hG0] at hF
    exact absurd hF.1 (by decide)
/-! ## a list, whole -/
noncomputable def Lst (x : Str) (cs : List Int) (bad : Bool) : Prop := ∃ sg, Text x.cps.toList sg ∧ Parts sg cs bad ∧ x.length < 1000000 ∧ sg.length < 100000 ∧ ∀ p ∈ sg, p.1 < 2 ^ 30
theorem fs_codes {x : Str} {cs : List Int} {bad : Bool} {M : Nat} (L : Lst x cs bad) (hM : M < 1000) : FSX 414 6 [.str x, .int (M : Nat)] [] (fun v led => Fits bad cs M ∧ ∃ d, v = .ref d ∧ led = [(d, .list (lst cs))]) fun led => ¬ Fits bad cs M ∧ led = [] :=
  let ⟨_, T, P, h1, h2, h3⟩ := L; fs_trans_codes T P h1 h2 hM h3


noncomputable def hasF (f : Str) (c : Nat) : Bool := decide (c ∈ f.cps.toList)
section
variable {sc : Scope} {a : Act sc} {loc : Loc} {led : Led} {K : KV}
theorem in_S {x y : Str} {c : Nat} (e : y = ⟨#[c]⟩) (k : K (.bool (hasF x c)) loc led) : Op2 a (compareOp .In) (.str y) (.str x) loc led K := by rw [e]; exact in_ss k
end
/-- the table of two lists -/
noncomputable def Tab (c1 c2 : List Int) (del tn : Bool) (kvs : List (Int × Int)) (barred : List Int) : Prop :=
  (tn = true ∧ kvs = [] ∧ ∃ ys, ys.Perm c1 ∧ ys.Pairwise (· ≤ ·) ∧ barred = onceL ys) ∨ (tn = false ∧ kvs = plainT c1 c2 del c1.length ∧ barred = [])
theorem g435 : GOk (scf 435) [(S "trans_codes", .ref 414), (S "TransTable", .ref 389), (S "sorted_once", .ref 428), (S "plain_table", .ref 421)] := .cons (by decide +kernel) gl_trans_codes (.cons (by decide +kernel) gl_TransTable (.cons (by decide +kernel) gl_sorted_once (.cons (by decide +kernel) gl_plain_table .nil)))
theorem fs_make_trans {x y f : Str} {c1 c2 : List Int} {b1 b2 : Bool} {M : Nat} (L1 : Lst x c1 b1) (L2 : Lst y c2 b2) (hM : M < 64) :
    FSX 435 8 [.str x, .str y, .str f, .int (M : Nat)] [] (fun v led => Fits b1 c1 M ∧ Fits b2 c2 M ∧ ∃ t d cd bd md kvs barred, Tab c1 c2 (hasF f 100) (hasF f 99) kvs barred ∧ v = .ref t ∧ led = ttab t d cd bd md (avs kvs) (hasF f 99) barred c2 (hasF f 100) (hasF f 115)) fun led => ¬ (Fits b1 c1 M ∧ Fits b2 c2 M) ∧ led = [] := by
  refine FSX.intro (scf 435) [S "source", S "target", S "flags", S "most"] [S "sources", S "becomes", S "is_deleting"] [(S "source", some (.str x)), (S "target", some (.str y)), (S "flags", some (.str f)), (S "most", some (.int (M : Nat))), (S "sources", none), (S "becomes", none), (S "is_deleting", none)] (fun P => by rfl) (fun P => by kernel_rfl!) (by rfl) rfl (len4 fun _ _ _ _ => rfl) (by decide +kernel) (by decide +kernel) (by rfl) (by rfl) (by rfl) (by decide +kernel) rfl ?_ (by decide)
  intro a O hr hh Z
  have G := g435
  have hM' : M < 1000 := Nat.lt_trans hM (by decide)
  with_reducible
    apply Ex_cons; assumption
    apply Ex_Assign; assumption; (k_dflt rfl)
  with_reducible refine Ev_call O G (by k_allIn) (fun w => by k_dflt kernel_rfl!) (by k_dflt rfl) ?_
  with_reducible
    apply EvL_cons; (k_dflt rfl)
    apply Ev_loc; assumption; k_allIn
    apply EvL_cons; (k_dflt rfl)
    apply Ev_loc; assumption; k_allIn
    apply EvL_nil
  refine OpL_FSX (fs_codes L1 hM') O hh (room_of hr rfl) (by decide) .nil Z ?_ ?_
  · rintro _ ⟨h, rfl⟩
    exact Appd.mk .nil (Has.mk .nil ⟨fun q => h q.1, rfl⟩)
  rintro _ _ ⟨h1, d1, rfl, rfl⟩
  with_reducible
    apply Appd.mk; k_allIn
    apply Stored.mk; k_allIn
    apply Ex_cons; assumption
    apply Ex_Assign; assumption; (k_dflt rfl)
  with_reducible refine Ev_call O G (by k_allIn) (fun w => by k_dflt kernel_rfl!) (by k_dflt rfl) ?_
  with_reducible
    apply EvL_cons; (k_dflt rfl)
    apply Ev_loc; assumption; k_allIn
    apply EvL_cons; (k_dflt rfl)
    apply Ev_loc; assumption; k_allIn
    apply EvL_nil
  refine OpL_FSX (fs_codes L2 hM') O hh (room_of hr rfl) (by decide) .nil Z ?_ ?_
  · rintro _ ⟨h, rfl⟩
    exact Appd.mk .nil (Has.mk .nil ⟨fun q => h q.2, rfl⟩)
  rintro _ _ ⟨h2, d2, rfl, rfl⟩
  with_reducible
    apply Appd.mk; k_allIn
    apply Stored.mk; k_allIn
    apply Ex_cons; assumption
    apply Ex_Assign; assumption; (k_dflt rfl)
    apply Ev_Compare; (k_dflt rfl)
    apply Ev_str
    apply Ev_loc; assumption; k_allIn
  refine in_S (c := 100) (by decide +kernel) ?_
  with_reducible
    apply Stored.mk; k_allIn
    apply Ex_cons; assumption
    apply Ex_If
    apply EvB_Compare; (k_dflt rfl)
    apply Ev_str
    apply Ev_loc; assumption; k_allIn
  refine in_S (c := 99) (by decide +kernel) ?_
  with_reducible
    apply truthy_b
  refine ⟨fun hb => ?_, fun hb => ?_⟩
  · with_reducible
      apply Ex_cons; assumption
      apply Ex_Return
    with_reducible refine Ev_call O G (by k_allIn) (fun w => by k_dflt kernel_rfl!) (by k_dflt rfl) ?_
    with_reducible
      apply EvL_cons; (k_dflt rfl)
      apply Ev_DictE; assumption; intro _
      apply EvL_cons; (k_dflt rfl)
      apply Ev_bool
      apply EvL_cons; (k_dflt rfl)
    with_reducible refine Ev_call O G (by k_allIn) (fun w => by k_dflt kernel_rfl!) (by k_dflt rfl) ?_
    with_reducible
      apply EvL_cons; (k_dflt rfl)
      apply Ev_loc; assumption; k_allIn
      apply EvL_nil
    refine OpL_FS (fs_sorted_once (Nat.lt_of_le_of_lt h1.2 hM)) O hh (room_of hr rfl) (by decide) (by k_allIn) ?_
    rintro _ _ ⟨bd, ys, hp, hs, rfl, rfl⟩
    with_reducible
      apply Appd.mk; k_allIn
      apply EvL_cons; (k_dflt rfl)
      apply Ev_loc; assumption; k_allIn
      apply EvL_cons; (k_dflt rfl)
      apply Ev_loc; assumption; k_allIn
      apply EvL_cons; (k_dflt rfl)
      apply Ev_Compare; (k_dflt rfl)
      apply Ev_str
      apply Ev_loc; assumption; k_allIn
    refine in_S (c := 115) (by decide +kernel) ?_
    with_reducible
      apply EvL_nil
    refine make0 mk389 (fun x d => fc_TransTable) O hh (by rw [hr]; decide) (by decide) .nil ?_
    rintro t d _ _ ⟨rfl, rfl⟩
    refine ⟨rfl, ?_⟩
    with_reducible
      apply Appd.mk; k_allIn
    rename_i cd
    exact Has.mk (led' := ttab t d cd bd d2 [] true (onceL ys) c2 (hasF f 100) (hasF f 115)) (by k_allIn) ⟨h1, h2, t, d, cd, bd, d2, [], onceL ys, .inl ⟨hb, rfl, ys, hp, hs, rfl⟩, rfl, by rw [hb]; rfl⟩
  · with_reducible
      apply Ex_nil
      apply Ex_cons; assumption
      apply Ex_Return
    with_reducible refine Ev_call O G (by k_allIn) (fun w => by k_dflt kernel_rfl!) (by k_dflt rfl) ?_
    with_reducible
      apply EvL_cons; (k_dflt rfl)
    with_reducible refine Ev_call O G (by k_allIn) (fun w => by k_dflt kernel_rfl!) (by k_dflt rfl) ?_
    with_reducible
      apply EvL_cons; (k_dflt rfl)
      apply Ev_loc; assumption; k_allIn
      apply EvL_cons; (k_dflt rfl)
      apply Ev_loc; assumption; k_allIn
      apply EvL_cons; (k_dflt rfl)
      apply Ev_loc; assumption; k_allIn
      apply EvL_nil
    refine OpL_FS (fs_plain_table (Nat.lt_of_le_of_lt h1.2 (Nat.lt_trans hM (by decide))) (Nat.lt_of_le_of_lt h2.2 (Nat.lt_trans hM (by decide)))) O hh (room_of hr rfl) (by decide) (by k_allIn) ?_
    rintro _ _ ⟨cd, rfl, rfl⟩
    with_reducible
      apply Appd.mk; k_allIn
      apply EvL_cons; (k_dflt rfl)
      apply Ev_bool
      apply EvL_cons; (k_dflt rfl)
      apply Ev_List
      apply EvL_nil
      apply new_list; assumption; (k_dflt exact Nat.le_of_ble_eq_true rfl); intro _
      apply EvL_cons; (k_dflt rfl)
      apply Ev_loc; assumption; k_allIn
      apply EvL_cons; (k_dflt rfl)
      apply Ev_loc; assumption; k_allIn
      apply EvL_cons; (k_dflt rfl)
      apply Ev_Compare; (k_dflt rfl)
      apply Ev_str
      apply Ev_loc; assumption; k_allIn
    refine in_S (c := 115) (by decide +kernel) ?_
    with_reducible
      apply EvL_nil
    refine make0 mk389 (fun x d => fc_TransTable) O hh (by rw [hr]; decide) (by decide) .nil ?_
    rintro t d _ _ ⟨rfl, rfl⟩
    refine ⟨rfl, ?_⟩
    with_reducible
      apply Appd.mk; k_allIn
    rename_i bd
    exact Has.mk (led' := [(t, .inst 389 d), (d, .attrs [(S "codes", .ref cd), (S "is_turned", .bool false), (S "barred", .ref bd), (S "becomes", .ref d2), (S "is_deleting", .bool (hasF f 100)), (S "is_squeezing", .bool (hasF f 115))]), (cd, .dI (avs (plainT c1 c2 (hasF f 100) c1.length))), (bd, .list []), (d2, .list (lst c2))]) (by k_allIn) ⟨h1, h2, t, d, cd, bd, d2, _, [], .inr ⟨hb, rfl, rfl⟩, rfl, by rw [hb]; rfl⟩


/-! ## trans_scalar -/
noncomputable abbrev rnA (hp ct lm n1 n2 n3 n4 n5 n6 n7 n8 n9 n10 : Addr) : AO := .attrs [(S "heap", .ref hp), (S "counter", .ref ct), (S "stash", .none), (S "limits", .ref lm), (S "nodes", .ref n1), (S "lvs", .ref n2), (S "statements", .ref n3), (S "funcs", .ref n4), (S "operators", .ref n5), (S "out", .ref n6), (S "err", .ref n7), (S "saves", .ref n8), (S "frames", .ref n9), (S "match", .none), (S "patterns", .ref n10), (S "steps", .int 0), (S "methods", .none), (S "call_code", .none), (S "compile_text", .none)]
noncomputable abbrev lmA (M : Int) : AO := .attrs [(S "width", .int 64), (S "depth", .int 50), (S "steps", .int 1000000), (S "text", .int 100000), (S "items", .int M)]
noncomputable abbrev ctsL (c cd hp p e x d wk : Addr) (pl em : Option Int) (val : AV) : Led := [(c, .inst 579 cd), (cd, ctA hp p e), (p, .dI (plD pl)), (e, .dI (plD em)), (x, .inst 117 d), (d, scA 1 wk val)]
theorem getD_low {c2 : List Int} (h2 : ∀ k ∈ c2, 0 ≤ k ∧ k ≤ 1114111) (i : Nat) : 0 ≤ c2.getD i 0 ∧ c2.getD i 0 ≤ 1114111 := by
  rw [List.getD_eq_getElem?_getD]
  cases e : c2[i]? with
  | none => exact ⟨Int.le_refl _, by decide⟩
  | some k => exact h2 k (List.mem_of_getElem? e)
theorem last_low {c2 : List Int} (h2 : ∀ k ∈ c2, 0 ≤ k ∧ k ≤ 1114111) : 0 ≤ c2.getLastD 0 ∧ c2.getLastD 0 ≤ 1114111 := by
  rw [List.getLastD_eq_getLast?]
  cases e : c2.getLast? with
  | none => exact ⟨Int.le_refl _, by decide⟩
  | some k => exact h2 k (List.mem_of_getLast? e)
theorem plain_ok {c1 c2 : List Int} {del : Bool} (h2 : ∀ k ∈ c2, 0 ≤ k ∧ k ≤ 1114111) (h1 : ∀ k ∈ c1, 0 ≤ k ∧ k ≤ 1114111) : ∀ n, ∀ p ∈ plainT c1 c2 del n, p.2 = -2 ∨ (0 ≤ p.2 ∧ p.2 ≤ 1114111) := by
  intro n
  induction n with
  | zero => intro p h; exact nomatch h
  | succ n ih =>
    intro p hp
    replace hp : p ∈ plainStep c1 c2 del (plainT c1 c2 del n) n := hp
    unfold plainStep at hp
    dsimp only at hp
    split at hp
    · exact ih p hp
    · rcases List.mem_append.mp hp with hp | hp
      · exact ih p hp
      · rw [List.mem_singleton.mp hp]
        dsimp only
        split
        · exact .inr (getD_low h2 _)
        · split
          · exact .inl rfl
          · split
            · exact .inr (getD_low h1 _)
            · exact .inr (last_low h2)
theorem turned_ok {barred c2 : List Int} {del : Bool} {c : Int} (h2 : ∀ k ∈ c2, 0 ≤ k ∧ k ≤ 1114111) (h0 : 0 ≤ c ∧ c ≤ 1114111) : let k := turnedC barred c2 del c; k = -1 ∨ k = -2 ∨ (0 ≤ k ∧ k ≤ 1114111) := by
  dsimp only
  unfold turnedC
  dsimp only
  split
  · exact .inl rfl
  · refine .inr ?_
    split
    · exact .inr (getD_low h2 _)
    · split
      · exact .inl rfl
      · split
        · exact .inr h0
        · exact .inr (last_low h2)
theorem look_in {kvs : List (Int × Int)} {c k : Int} (h : kvs.lookup c = some k) : ∃ p ∈ kvs, p.2 = k := by
  induction kvs with
  | nil => cases h
  | cons p r ih =>
    rw [List.lookup_cons] at h
    cases e : c == p.1 with
    | true => rw [e] at h; cases h; exact ⟨p, .head _, rfl⟩
    | false => rw [e] at h; obtain ⟨q, hq, e⟩ := ih h; exact ⟨q, .tail _ hq, e⟩
theorem tab_ok {c1 c2 kvs barred} {del tn : Bool} {c : Nat} (T : Tab c1 c2 del tn kvs barred) (h1 : ∀ k ∈ c1, 0 ≤ k ∧ k ≤ 1114111) (h2 : ∀ k ∈ c2, 0 ≤ k ∧ k ≤ 1114111) (hc : c ≤ 1114111) : let k := codeC tn kvs barred c2 del c; k = -1 ∨ k = -2 ∨ (0 ≤ k ∧ k ≤ 1114111) := by
  rcases T with ⟨rfl, _⟩ | ⟨rfl, rfl, _⟩
  · exact turned_ok h2 ⟨Int.natCast_nonneg c, by omega⟩
  · dsimp only
    unfold codeC plainC
    rw [if_neg (by decide)]
    cases e : (plainT c1 c2 del c1.length).lookup (c : Int) with
    | none => exact .inl rfl
    | some k =>
      obtain ⟨p, hp, rfl⟩ := look_in e
      exact .inr (plain_ok h2 h1 _ p hp)
theorem tab_len {c1 c2 kvs barred} {del tn : Bool} (T : Tab c1 c2 del tn kvs barred) (h : c1.length < 1000) : barred.length < 1000 := by
  rcases T with ⟨_, _, ys, hp, _, rfl⟩ | ⟨_, _, rfl⟩
  · exact Nat.lt_of_le_of_lt (onceL_len ys) (by rw [hp.length_eq]; exact h)
  · decide
noncomputable abbrev newS (r : RS) : Str := Txt.join (S "") r.1
theorem g487 : GOk (scf 487) [(S "match_target", .ref 475), (S "to_text", .ref 329), (S "value_of", .ref 322), (S "run_trans", .ref 463), (S "make_trans", .ref 435)] := .cons (by decide +kernel) gl_match_target (.cons (by decide +kernel) gl_to_text (.cons (by decide +kernel) gl_value_of (.cons (by decide +kernel) gl_run_trans (.cons (by decide +kernel) gl_make_trans .nil))))
theorem fs_trans_scalar {rn rd hp lm ld n1 n2 n3 n4 n5 n6 n7 n8 n9 n10 c cd p e x d wk : Addr} {pl em : Option Int} {val : AV} {y z f txt : Str} {c1 c2 : List Int} {b1 b2 : Bool} {M : Nat} (L1 : Lst y c1 b1) (L2 : Lst z c2 b2) (hM : M < 64) (h1 : ∀ k ∈ c1, 0 ≤ k ∧ k ≤ 1114111) (h2 : ∀ k ∈ c2, 0 ≤ k ∧ k ≤ 1114111)
    (FT : FS 329 3 [val] [] fun v led => v = .str txt ∧ led = []) (hv : NoRef val) (hx : txt.cps.toList.length ≤ 1000) (hc : ∀ c ∈ txt.cps.toList, c ≤ 1114111) :
    FSX 487 9 [.ref rn, .ref x, .str y, .str z, .str f] [(rn, .inst 614 rd), (rd, rnA hp c lm n1 n2 n3 n4 n5 n6 n7 n8 n9 n10), (lm, .inst 636 ld), (ld, lmA (M : Nat)), (c, .inst 579 cd), (cd, ctA hp p e), (p, .dI (plD pl)), (e, .dI (plD em)), (x, .inst 117 d), (d, scA 1 wk val)]
      (fun v led => Fits b1 c1 M ∧ Fits b2 c2 M ∧ ∃ kvs barred, Tab c1 c2 (hasF f 100) (hasF f 99) kvs barred ∧
        ∃ r, r = runS (codeC (hasF f 99) kvs barred c2 (hasF f 100)) (hasF f 115) txt.cps.toList ∧
        ((hasF f 114 = true ∧ v = .str (newS r) ∧ led = ctsL c cd hp p e x d wk pl em val) ∨ (hasF f 114 = false ∧ newS r = txt ∧ v = .int r.2.1 ∧ led = ctsL c cd hp p e x d wk pl em val) ∨
          (hasF f 114 = false ∧ newS r ≠ txt ∧ v = .int r.2.1 ∧ led = ctsL c cd hp p e x d wk none none (.str (newS r)))))
      fun led => ¬ (Fits b1 c1 M ∧ Fits b2 c2 M) ∧ led = ctsL c cd hp p e x d wk pl em val := by
  refine FSX.intro (scf 487) [S "run", S "scalar", S "source", S "target", S "flags"] [S "text", S "new", S "count"] [(S "run", some (.ref rn)), (S "scalar", some (.ref x)), (S "source", some (.str y)), (S "target", some (.str z)), (S "flags", some (.str f)), (S "text", none), (S "new", none), (S "count", none)] (fun P => by rfl) (fun P => by kernel_rfl!) (by rfl) rfl (len5 fun _ _ _ _ _ => rfl) (by decide +kernel) (by decide +kernel) (by rfl) (by rfl) (by rfl) (by decide +kernel) rfl ?_ (by decide)
  intro a O hr hh Z
  have G := g487
  with_reducible
    apply Ex_cons; assumption
    apply Ex_Assign; assumption; (k_dflt rfl)
  with_reducible refine Ev_call O G (by k_allIn) (fun w => by k_dflt kernel_rfl!) (by k_dflt rfl) ?_
  with_reducible
    apply EvL_cons; (k_dflt rfl)
    apply Ev_loc; assumption; k_allIn
    apply EvL_cons; (k_dflt rfl)
    apply Ev_loc; assumption; k_allIn
    apply EvL_nil
  refine OpL_FSe fs_match_target O hh (room_of hr rfl) (by decide) (by k_allIn) ?_
  with_reducible
    apply Appd.mk; k_allIn
    apply Stored.mk; k_allIn
    apply Ex_cons; assumption
    apply Ex_Assign; assumption; (k_dflt rfl)
  with_reducible refine Ev_call O G (by k_allIn) (fun w => by k_dflt kernel_rfl!) (by k_dflt rfl) ?_
  with_reducible
    apply EvL_cons; (k_dflt rfl)
  with_reducible refine Ev_call O G (by k_allIn) (fun w => by k_dflt kernel_rfl!) (by k_dflt rfl) ?_
  with_reducible
    apply EvL_cons; (k_dflt rfl)
    apply Ev_loc; assumption; k_allIn
    apply EvL_nil
  refine OpL_FS fs_value_of O hh (room_of hr rfl) (by decide) (by k_allIn) ?_
  rintro _ _ ⟨e0, rfl⟩
  rw [e0]
  with_reducible
    apply Appd.mk; k_allIn
    apply EvL_nil
  refine OpL_FSe FT O hh (room_of hr rfl) (by decide) .nil ?_
  with_reducible
    apply Appd.mk; k_allIn
    apply Stored.mk; k_allIn
    apply Ex_cons; assumption
    apply Ex_AssignTup; (k_dflt rfl); (k_dflt rfl)
  with_reducible refine Ev_call O G (by k_allIn) (fun w => by k_dflt kernel_rfl!) (by k_dflt rfl) ?_
  with_reducible
    apply EvL_cons; (k_dflt rfl)
  with_reducible refine Ev_call O G (by k_allIn) (fun w => by k_dflt kernel_rfl!) (by k_dflt rfl) ?_
  with_reducible
    apply EvL_cons; (k_dflt rfl)
    apply Ev_loc; assumption; k_allIn
    apply EvL_cons; (k_dflt rfl)
    apply Ev_loc; assumption; k_allIn
    apply EvL_cons; (k_dflt rfl)
    apply Ev_loc; assumption; k_allIn
    apply EvL_cons; (k_dflt rfl)
    apply Ev_Attr; (with_unfolding_all rfl)
    apply Ev_Attr; (with_unfolding_all rfl)
    apply Ev_loc; assumption; k_allIn
    apply get_at; assumption; k_allIn; k_allIn; (first | exact cls117 | exact cls389 | exact cls579 | exact cls614 | exact cls636 | exact cls276); (k_dflt rfl); k_allIn
    apply get_at; assumption; k_allIn; k_allIn; (first | exact cls117 | exact cls389 | exact cls579 | exact cls614 | exact cls636 | exact cls276); (k_dflt rfl); k_allIn
    apply EvL_nil
  refine OpL_FSX (fs_make_trans L1 L2 hM) O hh (room_of hr rfl) (by decide) .nil Z ?_ ?_
  · rintro _ ⟨h, rfl⟩
    exact Appd.mk .nil (Has.mk (led' := ctsL c cd hp p e x d wk pl em val) (by k_allIn) ⟨h, rfl⟩)
  rintro _ _ ⟨f1, f2, t, td, tc, bd, md, kvs, barred, T, rfl, rfl⟩
  with_reducible
    apply Appd.mk; k_allIn
    apply EvL_cons; (k_dflt rfl)
    apply Ev_loc; assumption; k_allIn
    apply EvL_nil
  refine OpL_FSe (fs_run_trans (kvs := kvs) (tab_len T (Nat.lt_of_le_of_lt f1.2 (Nat.lt_trans hM (by decide)))) (Nat.lt_of_le_of_lt f2.2 (Nat.lt_trans hM (by decide))) hx (fun c h => Nat.lt_of_le_of_lt (hc c h) (by decide)) (fun c h => tab_ok T h1 h2 (hc c h))) O hh (room_of hr rfl) (by decide) (by k_allIn) ?_
  generalize hr0 : runS (codeC (hasF f 99) kvs barred c2 (hasF f 100)) (hasF f 115) txt.cps.toList = r
  replace hr0 := Eq.symm hr0
  with_reducible
    apply Appd.mk; k_allIn
    apply asn_2; assumption; (k_dflt assumption)
    apply Stored.mk; k_allIn
    apply Stored.mk; k_allIn
    apply Ex_cons; assumption
    apply Ex_If
    apply EvB_Compare; (k_dflt rfl)
    apply Ev_str
    apply Ev_loc; assumption; k_allIn
  refine in_S (c := 114) (by decide +kernel) ?_
  with_reducible
    apply truthy_b
  refine ⟨fun hb => ?_, fun hb => ?_⟩
  · with_reducible
      apply Ex_cons; assumption
      apply Ex_Return
      apply Ev_loc; assumption; k_allIn
    exact Has.mk (led' := ctsL c cd hp p e x d wk pl em val) (by k_allIn) ⟨f1, f2, kvs, barred, T, r, hr0, .inl ⟨hb, rfl, rfl⟩⟩
  · with_reducible
      apply Ex_nil
      apply Ex_cons; assumption
      apply Ex_If
      apply EvB_Compare; (k_dflt rfl)
      apply Ev_loc; assumption; k_allIn
      apply Ev_loc; assumption; k_allIn
      apply ne_ss
      apply truthy_b
    refine ⟨fun hb2 => ?_, fun hb2 => ?_⟩
    · have hne : newS r ≠ txt := by simpa using hb2
      with_reducible
        apply Ex_cons; assumption
        apply Ex_Expr; (k_dflt rfl); (k_dflt rfl)
      refine Ev_methI (pl := _) O (by with_unfolding_all rfl) (by k_dflt rfl) ?_
      with_reducible
        apply Ev_Attr; (with_unfolding_all rfl)
        apply Ev_loc; assumption; k_allIn
        apply get_at; assumption; k_allIn; k_allIn; (first | exact cls117 | exact cls389 | exact cls579 | exact cls614 | exact cls636 | exact cls276); (k_dflt rfl); k_allIn
      refine MethI.mk (by k_allIn) (by k_allIn) mt_store (by k_dflt rfl) ?_
      with_reducible
        apply EvL_cons; (k_dflt rfl)
        apply Ev_loc; assumption; k_allIn
        apply EvL_cons; (k_dflt rfl)
        apply Ev_loc; assumption; k_allIn
        apply EvL_nil
      refine OpL_FS (fs_store hv) O hh (room_of hr rfl) (by decide) (by k_allIn) ?_
      rintro _ _ rfl
      with_reducible
        apply Appd.mk; k_allIn
        apply Ex_nil
        apply Ex_cons; assumption
        apply Ex_Return
        apply Ev_loc; assumption; k_allIn
      exact Has.mk (led' := ctsL c cd hp p e x d wk none none (.str (newS r))) (by k_allIn) ⟨f1, f2, kvs, barred, T, r, hr0, .inr (.inr ⟨hb, hne, rfl, rfl⟩)⟩
    · have heq : newS r = txt := by simpa using hb2
      with_reducible
        apply Ex_nil
        apply Ex_cons; assumption
        apply Ex_Return
        apply Ev_loc; assumption; k_allIn
      exact Has.mk (led' := ctsL c cd hp p e x d wk pl em val) (by k_allIn) ⟨f1, f2, kvs, barred, T, r, hr0, .inr (.inl ⟨hb, heq, rfl, rfl⟩)⟩


/-! ## groups -/
noncomputable def subS (x : Str) (b e : Nat) : Str := ⟨((x.cps.toList.drop b).take (e - b)).toArray⟩
noncomputable abbrev grA (p : Option (Nat × Nat)) : AV := match p with | none => .none | some p => .tup [.int (p.1 : Nat), .int (p.2 : Nat)]
noncomputable abbrev gvA (x : Str) (p : Option (Nat × Nat)) : AV := match p with | none => .none | some p => .str (subS x p.1 p.2)
noncomputable def GrOk (x : Str) (p : Option (Nat × Nat)) : Prop := ∀ q, p = some q → q.1 ≤ q.2 ∧ q.2 ≤ x.length
theorem fs_group_n {x : Str} : FS 336 2 [.str x, .none] [] fun v led => v = .none ∧ led = [] := by
  refine FS.intro (scf 336) [S "text", S "pair"] [] [(S "text", some (.str x)), (S "pair", some (.none))] (fun P => by rfl) (fun P => by kernel_rfl!) (by rfl) rfl (len2 fun _ _ => rfl) (by decide +kernel) (by decide +kernel) (by rfl) (by rfl) (by rfl) (by decide +kernel) rfl ?_ (by decide)
  intro a O hr hh
  with_reducible
    apply Ex_cons; assumption
    apply Ex_Return
    apply Ev_IfExp
    apply EvB_Compare; (k_dflt rfl)
    apply Ev_loc; assumption; k_allIn
    apply Ev_none
    apply is_n
    apply truthy_b
    refine Two.t rfl ?_
    apply Ev_none
  exact Has.mk .nil ⟨rfl, rfl⟩
theorem fs_group_p {x : Str} {b e : Nat} (h1 : b ≤ e) (h2 : e ≤ x.length) (hz : x.length ≤ 1000000) : FS 336 2 [.str x, .tup [.int (b : Nat), .int (e : Nat)]] [] fun v led => v = .str (subS x b e) ∧ led = [] := by
  refine FS.intro (scf 336) [S "text", S "pair"] [] [(S "text", some (.str x)), (S "pair", some (.tup [.int (b : Nat), .int (e : Nat)]))] (fun P => by rfl) (fun P => by kernel_rfl!) (by rfl) rfl (len2 fun _ _ => rfl) (by decide +kernel) (by decide +kernel) (by rfl) (by rfl) (by rfl) (by decide +kernel) rfl ?_ (by decide)
  intro a O hr hh
  with_reducible
    apply Ex_cons; assumption
    apply Ex_Return
    apply Ev_IfExp
    apply EvB_Compare; (k_dflt rfl)
    apply Ev_loc; assumption; k_allIn
    apply Ev_none
    apply is_n
    apply truthy_b
    refine Two.f rfl ?_
    apply Ev_SliceS; (intro _ _; k_dflt rfl)
    apply Ev_loc; assumption; k_allIn
    apply ex_str
    apply evP_some
    apply Ev_Sub
    apply Ev_loc; assumption; k_allIn
    apply Ev_int
  refine sub_tup (x := .int (b : Nat)) (by decide) (by decide) rfl (by intro _ _; with_unfolding_all rfl) ?_
  with_reducible
    apply ex_int
    apply evP_some
    apply Ev_Sub
    apply Ev_loc; assumption; k_allIn
    apply Ev_int
  refine sub_tup (x := .int (e : Nat)) (by decide) (by decide) rfl (by intro _ _; with_unfolding_all rfl) ?_
  with_reducible
    apply ex_int
  refine ⟨hz, ?_⟩
  rw [slice_ab h1 h2]
  exact Has.mk .nil ⟨rfl, rfl⟩
theorem fs_group {x : Str} {p : Option (Nat × Nat)} (h : GrOk x p) (hz : x.length ≤ 1000000) : FS 336 2 [.str x, grA p] [] fun v led => v = gvA x p ∧ led = [] := by
  cases p with
  | none => exact fs_group_n
  | some p => exact fs_group_p (h p rfl).1 (h p rfl).2 hz
theorem GOk.one {sc : Scope} (_c : Act sc) {x : Str} {v : Value} (h : (decide (sc.names.lookup x = some .globalImplicit) && !(x == ("__debug__" : Str))) = true) (g : Gl x v) : GOk sc [(x, v)] := .cons h g .nil
theorem GOk.two {sc : Scope} (_c : Act sc) {x y : Str} {v u : Value} (h : (decide (sc.names.lookup x = some .globalImplicit) && !(x == ("__debug__" : Str))) = true) (g : Gl x v) (h' : (decide (sc.names.lookup y = some .globalImplicit) && !(y == ("__debug__" : Str))) = true) (g' : Gl y u) : GOk sc [(x, v), (y, u)] := .cons h g (.cons h' g' .nil)
theorem map_snoc {α β : Type} {f : α → β} {l : List α} {i : Nat} {c : α} (h : l[i]? = some c) : (l.take (i + 1)).map f = (l.take i).map f ++ [f c] := by rw [List.take_add_one, h, Option.toList_some, List.map_append]; rfl
theorem g480 : GOk (scf 480) [(S "len", .builtin "len")] := .cons (by decide +kernel) gl_len .nil
theorem fs_group_values0 {x : Str} {gd : Addr} {y : AV} : FS 480 4 [.str x, .ref gd] [(gd, .list [y])] fun v led => ∃ d, v = .ref d ∧ led = [(d, .list [.int 1])] := by
  refine FSX.introC (scf 480) [S "text", S "groups"] [(S "groups", some (.ref gd))] [(S "text", some (.str x))] [S "text"] rfl (fun P => by rfl) (fun P => by kernel_rfl!) (by rfl) rfl (by decide +kernel) (fun vs h => len2 (P := fun vs => bindArgs _ ⟨vs, []⟩ = pure (([S "text", S "groups"]).zip vs)) (fun _ _ => rfl) vs h) (by decide +kernel) (show ([S "groups"] : List Str).all (fun x => decide ((scf 480).names.lookup x = some .local) && !(x == ("__debug__" : Str))) = true from by decide +kernel) (show ([S "groups"] : List Str).Nodup from by decide +kernel) (by decide +kernel) (by decide +kernel) (by rfl) (by rfl) (by rfl) (by intro _ _ h; revert h; exact InitL.mem (by repeat (first | exact InitL.nil | apply InitL.none | apply InitL.some | exact GetK.here | apply GetK.there)) _ _) (by intro _ _ h; revert h; exact InitL.mem (by repeat (first | exact InitL.nil | apply InitL.none | apply InitL.some | exact GetK.here | apply GetK.there)) _ _) ?_ (by decide)
  intro a ad O hr hh hcl Z
  have hc_text := hcl (S "text") (.head _)
  have G := g480
  refine Ex_cells (l := [(ad (S "text"), AO.cell (some (.str x)))]) (by k_allIn) ?_
  with_reducible
    apply Ex_cons; assumption
    apply Ex_If
    apply EvB_Compare; (k_dflt rfl)
    apply Ev_callB; assumption; assumption; k_allIn; (k_dflt rfl)
    apply EvL_cons; (k_dflt rfl)
    apply Ev_loc; assumption; k_allIn
    apply EvL_nil
    apply len_list; k_allIn; (k_dflt (simp only [List.length_map, List.length_append, List.length_cons, List.length_nil] <;> omega))
    apply Ev_int
    apply eq_ii
    apply truthy_b
    refine Two.t rfl ?_
    apply Ex_cons; assumption
    apply Ex_Return
    apply Ev_List
    apply EvL_cons; (k_dflt rfl)
    apply Ev_int
    apply EvL_nil
    apply new_list; assumption; (k_dflt exact Nat.le_of_ble_eq_true rfl); intro _
  exact Has.mk (led' := [(_, .list [.int 1])]) (by k_allIn) ⟨_, rfl, rfl⟩
theorem fs_group_values {x : Str} {gd : Addr} {y : AV} {ps : List (Option (Nat × Nat))} (hp : ∀ p ∈ ps, GrOk x p) (hz : x.length ≤ 1000000) (hn : ps ≠ []) (hl : ps.length < 1000) : FS 480 4 [.str x, .ref gd] [(gd, .list (y :: ps.map grA))] fun v led => ∃ d, v = .ref d ∧ led = [(d, .list (ps.map (gvA x)))] := by
  refine FSX.introC (scf 480) [S "text", S "groups"] [(S "groups", some (.ref gd))] [(S "text", some (.str x))] [S "text"] rfl (fun P => by rfl) (fun P => by kernel_rfl!) (by rfl) rfl (by decide +kernel) (fun vs h => len2 (P := fun vs => bindArgs _ ⟨vs, []⟩ = pure (([S "text", S "groups"]).zip vs)) (fun _ _ => rfl) vs h) (by decide +kernel) (show ([S "groups"] : List Str).all (fun x => decide ((scf 480).names.lookup x = some .local) && !(x == ("__debug__" : Str))) = true from by decide +kernel) (show ([S "groups"] : List Str).Nodup from by decide +kernel) (by decide +kernel) (by decide +kernel) (by rfl) (by rfl) (by rfl) (by intro _ _ h; revert h; exact InitL.mem (by repeat (first | exact InitL.nil | apply InitL.none | apply InitL.some | exact GetK.here | apply GetK.there)) _ _) (by intro _ _ h; revert h; exact InitL.mem (by repeat (first | exact InitL.nil | apply InitL.none | apply InitL.some | exact GetK.here | apply GetK.there)) _ _) ?_ (by decide)
  intro a ad O hr hh hcl Z
  have hc_text := hcl (S "text") (.head _)
  have G := g480
  refine Ex_cells (l := [(ad (S "text"), AO.cell (some (.str x)))]) (by k_allIn) ?_
  with_reducible
    apply Ex_cons; assumption
    apply Ex_If
    apply EvB_Compare; (k_dflt rfl)
    apply Ev_callB; assumption; assumption; k_allIn; (k_dflt rfl)
    apply EvL_cons; (k_dflt rfl)
    apply Ev_loc; assumption; k_allIn
    apply EvL_nil
    apply len_list; k_allIn; (k_dflt (simp only [List.length_map, List.length_append, List.length_cons, List.length_nil] <;> omega))
    apply Ev_int
    apply eq_ii
    apply truthy_b
  have hl1 : 0 < ps.length := List.length_pos_iff.mpr hn
  have hl2 : (y :: ps.map grA).length = ps.length + 1 := by rw [List.length_cons, List.length_map]
  rw [hl2]
  refine .f (beq_eq_false_iff_ne.mpr (by omega)) ?_
  with_reducible
    apply Ex_nil
    apply Ex_cons; assumption
    apply Ex_Return
  refine Ev_ListComp ad [S "pair"] O (by decide +kernel) (fun y hy => by cases List.mem_singleton.mp hy; exact hc_text) (by intro _; rfl) ?_
  refine Ev_SliceFrom O (by intro _ _; rfl) ?_
  with_reducible
    apply Ev_loc; assumption; k_allIn
  refine ⟨gd, y :: ps.map grA, rfl, ?_⟩
  with_reducible
    apply evP_some
    apply Ev_int
    apply ex_int
  refine ⟨1, rfl, .there .here, by rw [hl2]; omega, by rw [hl2]; omega, fun r => ?_⟩
  show CompA a _ _ _ _ _ _ _ _ _ [(r, .list (ps.map grA)), _, _]
  refine CompA.mke (ps.map grA) [(r, .list (ps.map grA))] _ ([(ad (S "text"), .cell (some (.str x)))]) (fun i => (ps.take i).map (gvA x)) (.cons .here .nil) (by rw [List.length_map]; omega) (iter_list O hh) (by k_allIn) rfl ?_ ?_
  · intro c i av O hcr hch hcl hav
    have G := GOk.one c (x := S "group_text") (by decide +kernel) gl_group_text
    have hf := hcl (S "text") (.head _)
    have hh : c.hd = true := hch.trans hh
    rw [List.getElem?_map] at hav
    obtain ⟨p, hpi, rfl⟩ := Option.map_eq_some_iff.mp hav
    have hp1 := hp p (List.mem_of_getElem? hpi)
    refine asn_name O .here (ct_nil (.t rfl ?_))
    with_reducible refine Ev_call O G (by k_allIn) (fun w => by k_dflt kernel_rfl!) (by k_dflt rfl) ?_
    with_reducible
      apply EvL_cons; (k_dflt rfl)
      apply Ev_cell; assumption; (decide +kernel); assumption; k_allIn
      apply EvL_cons; (k_dflt rfl)
      apply Ev_loc; assumption; k_allIn
      apply EvL_nil
    refine OpL_FSe (fs_group hp1 hz) O hh (room_of (hcr.trans hr) rfl) (by decide) .nil ?_
    with_reducible
      apply Appd.mk; k_allIn
    exact Has.mk (led' := [(ad (S "text"), .cell (some (.str x)))]) (by k_allIn) ⟨(map_snoc hpi).symm, rfl⟩
  · skip
    rw [List.length_map, List.take_length]
    with_reducible
      apply Appd.mk; k_allIn
    intro D
    exact Has.mk (led' := [(D, .list (ps.map (gvA x)))]) (by k_allIn) ⟨D, rfl, rfl⟩


/-! ## the lists that the law lays -/
theorem fall_nat (cs : List Int) (st : Nat) {many : Nat} (h : 0 < many) : ∃ n, n < many ∧ fallV cs st (many : Nat) = (n : Nat) := by
  have key : ∀ i : Int, ∃ n, n < many ∧ i.fmod (many : Nat) = (n : Nat) := fun i => by
    have h1 := Int.fmod_nonneg_of_pos i (show (0 : Int) < many by omega)
    have h2 := Int.fmod_lt_of_pos i (show (0 : Int) < many by omega)
    exact ⟨(i.fmod many).toNat, by omega, by omega⟩
  unfold fallV
  split
  · exact key _
  · exact key _
theorem FS.mono {f : Addr} {n : Nat} {args : List AV} {led : Led} {R R' : AV → Led → Prop} (F : FS f n args led R) (h : ∀ v led, R v led → R' v led) : FS f n args led R' :=
  fun a1 a2 a3 a4 a5 a6 a7 a8 => wpAny_mono (F a1 a2 a3 a4 a5 a6 a7 a8) (fun _ _ ⟨av, led', e, r1, r2, r3, r4, r5, r6, r7⟩ => ⟨av, led', h _ _ e, r1, r2, r3, r4, r5, r6, r7⟩) fun _ _ e => e
theorem fs_fallN {jar cl : Addr} {cs : List Int} {st : Nat} (many : Nat) (hm : 0 < many) (hz : cs.length < 1000000) (hst : st < 2 ^ 29) :
    FS 647 2 [.ref jar, .int (many : Nat)] (jarL jar cl cs st) fun v led => ∃ n, n < many ∧ v = .int (n : Nat) ∧ led = jarL jar cl cs (st + 1) := by
  refine FS.mono (fs_fall (by omega) hz hst) fun v led h => ?_
  obtain ⟨n, h1, h2⟩ := fall_nat cs st hm
  rw [h2] at h
  exact ⟨n, h1, h.1, h.2⟩
inductive Seg : List Nat → List (Nat × Bool) → List Int → Prop
  | one {t c g} : Atom t c g → (c, g) ≠ (45, false) → c ≤ 1114111 → Seg t [(c, g)] [(c : Int)]
  | rng {a b : Nat} : a ≤ b → a ≠ 92 → b ≠ 92 → a ≠ 45 → b ≤ 1114111 → Seg [a, 45, b] [(a, false), (45, false), (b, false)] (rngL a b)
inductive Segs : List Nat → List (Nat × Bool) → List Int → Prop
  | nil : Segs [] [] []
  | cons {t t' sg sg' cs cs'} : Seg t sg cs → Segs t' sg' cs' → Segs (t ++ t') (sg ++ sg') (cs ++ cs')
theorem Segs.append {t t' sg sg' cs cs'} (x : Segs t sg cs) (y : Segs t' sg' cs') : Segs (t ++ t') (sg ++ sg') (cs ++ cs') := by
  induction x with
  | nil => exact y
  | cons a _ ih => rw [List.append_assoc, List.append_assoc, List.append_assoc]; exact .cons a ih
theorem Segs.snoc {t t' sg sg' cs cs'} (x : Segs t sg cs) (y : Seg t' sg' cs') : Segs (t ++ t') (sg ++ sg') (cs ++ cs') := by
  have := x.append (.cons y .nil)
  rwa [List.append_nil, List.append_nil, List.append_nil] at this
theorem Seg.text {t sg cs} (x : Seg t sg cs) : Text t sg := by
  cases x with
  | one a _ _ => have := Text.cons a .nil; rwa [List.append_nil] at this
  | rng h a b c _ => exact .cons (.plain a) (.cons (.plain (by decide)) (.cons (.plain b) .nil))
/-- a start that no sign ahead takes for a range -/
noncomputable def Free (sg : List (Nat × Bool)) : Prop := sg.head? = some (45, false) → sg.length < 2
theorem Seg.free {t sg cs} (x : Seg t sg cs) (r : List (Nat × Bool)) : Free (sg ++ r) := by
  cases x with
  | one a h _ => exact fun e => absurd (Option.some.inj e) h
  | rng h a b c _ => exact fun e => absurd (congrArg Prod.fst (Option.some.inj e)) c
theorem Segs.whole {t sg cs tt st ct bad} (x : Segs t sg cs) (T : Text tt st) (P : Parts st ct bad) (F : Free st) : Text (t ++ tt) (sg ++ st) ∧ Parts (sg ++ st) (cs ++ ct) bad ∧ Free (sg ++ st) := by
  induction x with
  | nil => exact ⟨T, P, F⟩
  | cons a _ ih =>
    obtain ⟨i1, i2, i3⟩ := ih
    rw [List.append_assoc, List.append_assoc, List.append_assoc]
    refine ⟨a.text.append i1, ?_, a.free _⟩
    cases a with
    | one _ _ _ => exact .one i2 i3
    | rng h _ _ _ _ => exact .range h i2
/-- codes within bounds -/
noncomputable def Low (cs : List Int) : Prop := ∀ k ∈ cs, 0 ≤ k ∧ k ≤ 1114111
theorem Low.append {a b : List Int} (x : Low a) (y : Low b) : Low (a ++ b) := fun k h => (List.mem_append.mp h).elim (x k) (y k)
theorem rngL_low {a b : Nat} (hb : b ≤ 1114111) : Low (rngL a b) := fun k h => by
  obtain ⟨i, hi, rfl⟩ := List.mem_map.mp h
  have := List.mem_range.mp hi
  omega
noncomputable def Bnd (sg : List (Nat × Bool)) : Prop := ∀ p ∈ sg, p.1 < 2 ^ 30
theorem Bnd.append {a b : List (Nat × Bool)} (x : Bnd a) (y : Bnd b) : Bnd (a ++ b) := fun k h => (List.mem_append.mp h).elim (x k) (y k)
theorem bnd1 {c : Nat} {g : Bool} (h : c ≤ 1114111) : Bnd [(c, g)] := fun p hp => by rw [List.mem_singleton.mp hp]; exact Nat.lt_of_le_of_lt h (by decide)
theorem Atom.len {t c g} (x : Atom t c g) : 1 ≤ t.length ∧ t.length ≤ 4 := by cases x <;> exact ⟨by simp, by simp⟩
theorem Seg.facts {t sg cs} (x : Seg t sg cs) : Low cs ∧ Bnd sg ∧ sg.length ≤ t.length ∧ t.length ≤ 4 := by
  cases x with
  | one a _ h => exact ⟨fun k hk => by rw [List.mem_singleton.mp hk]; omega, bnd1 h, a.len⟩
  | rng h _ _ _ h2 => exact ⟨rngL_low h2, (bnd1 (Nat.le_trans h h2)).append ((bnd1 (by decide)).append (bnd1 h2)), Nat.le_refl _, Nat.le_succ _⟩
theorem Segs.facts {t sg cs} (x : Segs t sg cs) : Low cs ∧ Bnd sg ∧ sg.length ≤ t.length := by
  induction x with
  | nil => exact ⟨fun _ h => (nomatch h), fun _ h => (nomatch h), Nat.le_refl _⟩
  | cons a _ ih =>
    obtain ⟨f1, f2, f3, _⟩ := a.facts
    exact ⟨f1.append ih.1, f2.append ih.2.1, by rw [List.length_append, List.length_append]; exact Nat.add_le_add f3 ih.2.2⟩
theorem cps_app (x y : Str) : (x ++ y).cps.toList = x.cps.toList ++ y.cps.toList := by
  show (x.cps ++ y.cps).toList = _
  rw [Array.toList_append]
theorem len_cps (x : Str) : x.cps.toList.length = x.length := Array.length_toList
section
variable {sc : Scope} {a : Act sc} {loc : Loc} {led : Led} {K : KV}
theorem chr_n {n : Nat} (h : n ≤ 1114111) (k : K (.str ⟨#[n]⟩) loc led) : OpL a (fun vs => call (.builtin "chr") vs) [.int (n : Nat)] loc led K :=
  chr_i (Int.natCast_nonneg _) (by omega) (by rw [Int.toNat_natCast]; exact k)
theorem add_st {x y : Str} (hx : x.length < 1000) (hy : y.length < 1000) (k : K (.str (x ++ y)) loc led) : Op2 a (binaryOp .Add) (.str x) (.str y) loc led K := add_ss (by rw [sizeLine_eq]; omega) k
theorem mod_nn {i j : Nat} (hj : j ≠ 0) (h : K (.int ((i % j : Nat) : Int)) loc led) : Op2 a (binaryOp .Mod) (.int (i : Nat)) (.int (j : Nat)) loc led K := mod_ii (by omega) (by rw [fm]; exact h)
end
noncomputable def escS : Nat → Str
  | 0 => S "\\n" | 1 => S "\\t" | 2 => S "\\\\" | 3 => S "\\000" | _ => S "\\q"
noncomputable def escC : Nat → Nat
  | 0 => 10 | 1 => 9 | 2 => 92 | 3 => 0 | _ => 113
noncomputable abbrev escSs : List AV := [.str (S "\\n"), .str (S "\\t"), .str (S "\\\\"), .str (S "\\000"), .str (S "\\q")]
noncomputable abbrev escCs : List AV := [.int 10, .int 9, .int 92, .int 0, .int 113]
theorem esc_get {k : Nat} (h : k < 5) : escSs[k]? = some (.str (escS k)) ∧ escCs[k]? = some (.int (escC k : Nat)) ∧ Seg (escS k).cps.toList [(escC k, true)] [(escC k : Nat)] := by
  have hq : ∀ c d : Nat, (c, true) ≠ (d, false) := fun c d e => Bool.noConfusion (congrArg Prod.snd e)
  match k, h with
  | 0, _ => exact ⟨rfl, rfl, .one (.short (by decide +kernel)) (hq _ _) (by decide)⟩
  | 1, _ => exact ⟨rfl, rfl, .one (.short (by decide +kernel)) (hq _ _) (by decide)⟩
  | 2, _ => exact ⟨rfl, rfl, .one (.self (by unfold selfC; decide +kernel)) (hq _ _) (by decide)⟩
  | 3, _ => exact ⟨rfl, rfl, .one .zero (hq _ _) (by decide)⟩
  | 4, _ => exact ⟨rfl, rfl, .one (.self (by unfold selfC; decide +kernel)) (hq _ _) (by decide)⟩


noncomputable def GoodL (i : Nat) (t : List Nat) (cs : List Int) (bad : Bool) : Prop :=
  (bad = false ∧ ∃ sg, Segs t sg cs) ∨ (bad = true ∧ i = 4 ∧ ∃ t0 sg0 cs0 a b, Segs t0 sg0 cs0 ∧ cs0.length < 90 ∧ b < a ∧ a ≤ 1114111 ∧ a ≠ 92 ∧ b ≠ 92 ∧ a ≠ 45 ∧ t = t0 ++ [a, 45, b])
theorem lst_app (a b : List Int) : lst a ++ lst b = lst (a ++ b) := List.map_append.symm
theorem rng_lst (a b : Nat) : rng (a : Nat) (b + 1 - a) = lst (rngL a b) := by
  show _ = List.map _ (List.map _ _)
  rw [List.map_map]; rfl
theorem turn_st {st i : Nat} {k : Nat} (h : k ≤ st + 1 + 4 * i) (hst : st < 2 ^ 28) (hi : i < 5) : k < 2 ^ 29 ∧ k + 1 < 2 ^ 29 ∧ k + 2 < 2 ^ 29 := by omega
section
variable {sc : Scope} {a : Act sc} {loc : Loc} {led : Led} {K : KV}
theorem add_lc {d e : Addr} {cs : List Int} {ys : List AV} (O : a.Ok) (g : GetO d (.list (lst cs)) led) (g' : GetO e (.list ys) led) (h1 : cs.length < 1000) (h2 : ys.length < 1000) (k : ∀ r, K (.ref r) loc ((r, .list (lst cs ++ ys)) :: led)) : Op2 a (binaryOp .Add) (.ref d) (.ref e) loc led K :=
  add_ll O g g' (by rw [List.length_map]; omega) k
theorem fold_nn {i j : Nat} (h : j ≤ i) (k : K (.int ((i - j : Nat) : Int)) loc led) : Op2 a (binaryOp .Sub) (.int (i : Nat)) (.int (j : Nat)) loc led K := sub_ii (by rw [← Int.ofNat_sub h]; exact k)
end
theorem esc_len {k : Nat} (h : k < 5) : (escS k).length < 1000 := by
  have : ∀ k < 5, (escS k).length < 1000 := by decide +kernel
  exact this k h
theorem low45 : Low [45] := fun k h => by rw [List.mem_singleton.mp h]; decide
theorem low0 : Low [] := fun _ h => nomatch h
inductive J20 (jar cl : Addr) (cells : List Int) (st i : Nat) (loc : Loc) (led : Led) : Prop
  | intro (x : Str) (cs : List Int) (cd : Addr) (st' : Nat) (bad : Bool) (l1 l2 l3 l4 l5 : Option AV) (h1 : st' ≤ st + 1 + 4 * i) (h2 : GoodL i x.cps.toList cs bad) (h3 : x.length ≤ 4 * i) (h4 : cs.length ≤ 5 * i)
    (hl : loc = [(S "jar", some (.ref jar)), (S "text", some (.str x)), (S "codes", some (.ref cd)), (S "is_bad", some (.bool bad)), (S "turn", l1), (S "way", l2), (S "code", l3), (S "last", l4), (S "back", l5)])
    (hd : led = [(cd, .list (lst cs)), (jar, .dS [(S "cells", .ref cl), (S "step", .int (st' : Nat))]), (cl, .list (lst cells))])
inductive R20 (jar cl : Addr) (cells : List Int) (st : Nat) (v : AV) (led : Led) : Prop
  | intro (st' : Nat) (x : Str) (cs : List Int) (bad : Bool) (h1 : st' ≤ st + 30) (h2 : Lst x cs bad) (h3 : Low cs) (h4 : cs.length < 100)
      (h5 : (bad = false ∧ ∃ cd, v = .tup [.str x, .ref cd] ∧ led = (cd, .list (lst cs)) :: jarL jar cl cells st') ∨ (bad = true ∧ v = .tup [.str x, .none] ∧ led = jarL jar cl cells st'))
theorem up20 {st st' i : Nat} (h : st' ≤ st + 1 + 4 * i) : st' + 1 + 1 ≤ st + 1 + 4 * (i + 1) ∧ st' + 1 + 1 + 1 ≤ st + 1 + 4 * (i + 1) := by omega
theorem len20 {n i k b : Nat} (h : n ≤ k * i) (hi : i < 4) (hk : k * 4 ≤ b) : n < b + 1 := Nat.lt_succ_of_le (Nat.le_trans h (Nat.le_trans (Nat.mul_le_mul_left k (Nat.le_of_lt hi)) hk))
theorem ne20 (m : Nat) : ¬ 97 + m = 45 := by omega
theorem g654 : GOk (scf 654) [(S "_law_fall", .ref 647), (S "range", .type "range"), (S "chr", .builtin "chr"), (S "list", .type "list")] := .cons (by decide +kernel) gl__law_fall (.cons (by decide +kernel) gl_range (.cons (by decide +kernel) gl_chr (.cons (by decide +kernel) gl_list .nil)))
theorem fs_law_list {jar cl : Addr} {cells : List Int} {st : Nat} (hz : cells.length < 1000000) (hst : st < 2 ^ 28) :
    FS 654 4 [.ref jar] (jarL jar cl cells st) (R20 jar cl cells st) := by
  refine FS.intro (scf 654) [S "jar"] [S "text", S "codes", S "is_bad", S "turn", S "way", S "code", S "last", S "back"] [(S "jar", some (.ref jar)), (S "text", none), (S "codes", none), (S "is_bad", none), (S "turn", none), (S "way", none), (S "code", none), (S "last", none), (S "back", none)] (fun P => by rfl) (fun P => by kernel_rfl!) (by rfl) rfl (len1 fun _ => rfl) (by decide +kernel) (by decide +kernel) (by rfl) (by rfl) (by rfl) (by decide +kernel) rfl ?_ (by decide)
  intro a O hr hh
  have G := g654
  with_reducible
    apply Ex_cons; assumption
    apply Ex_Swap3; assumption; (k_dflt assumption); (k_dflt rfl); (k_dflt rfl)
    apply Ev_Tuple
    apply EvL_cons; (k_dflt rfl)
    apply Ev_str
    apply EvL_cons; (k_dflt rfl)
    apply Ev_List
    apply EvL_nil
    apply new_list; assumption; (k_dflt exact Nat.le_of_ble_eq_true rfl); intro _
    apply EvL_cons; (k_dflt rfl)
    apply Ev_bool
    apply EvL_nil
    apply new_tuple; (k_dflt exact Nat.le_of_ble_eq_true rfl)
    apply sw3
    apply Stored.mk; k_allIn
    apply Stored.mk; k_allIn
    apply Stored.mk; k_allIn
    apply Ex_cons; assumption
    apply Ex_For; assumption; (intro _; k_dflt rfl)
    apply Ev_callT; assumption; assumption; k_allIn; (k_dflt rfl)
    apply EvL_cons; (k_dflt rfl)
  rename_i cd0
  with_reducible refine Ev_call O G (by k_allIn) (fun w => by k_dflt kernel_rfl!) (by k_dflt rfl) ?_
  with_reducible
    apply EvL_cons; (k_dflt rfl)
    apply Ev_loc; assumption; k_allIn
    apply EvL_cons; (k_dflt rfl)
    apply Ev_int
    apply EvL_nil
  refine OpL_FSn (fs_fallN 5 (by decide) hz (Nat.lt_of_lt_of_le hst (by decide))) O hh (room_of hr rfl) (by decide) (by k_allIn) (fun n hn => ?_)
  with_reducible
    apply Appd.mk; k_allIn
    apply EvL_nil
    apply range_1; assumption; intro _
  let J : Nat → Loc → Led → Prop := J20 jar cl cells st
  refine ForA.mk (rng 0 n) [_] _ J (.cons .here .nil) (iter_upto O hh (Nat.lt_trans hn (by decide))) (Has.mk (led' := [(cd0, .list []), (jar, .dS [(S "cells", .ref cl), (S "step", .int ((st + 1 : Nat) : Nat))]), (cl, .list (lst cells))]) (by k_allIn) ⟨_, [], _, st + 1, _, _, _, _, _, _, Nat.le_refl _, .inl ⟨rfl, [], .nil⟩, Nat.le_refl _, Nat.le_refl _, rfl, rfl⟩) ?_ ?_
  · rintro h i av loc led O _ hav ⟨x, cs, cd, st', bad, l1, l2, l3, l4, l5, hs', hg, hx, hcs, rfl, rfl⟩
    obtain ⟨hi, rfl⟩ := rng_get0 hav
    have hi4 : i < 4 := Nat.lt_of_lt_of_le hi (Nat.le_of_lt_succ hn)
    obtain ⟨rfl, sg, hsg⟩ : bad = false ∧ ∃ sg, Segs x.cps.toList sg cs := by
      rcases hg with h | ⟨_, h, _⟩
      · exact h
      · exact absurd h (Nat.ne_of_lt hi4)
    obtain ⟨b1, b2, b3⟩ := turn_st hs' hst (Nat.lt_succ_of_lt hi4)
    have hx16 : x.length < 1000 := len20 (b := 999) hx hi4 (by decide)
    with_reducible
      apply asn_name; assumption; k_allIn
      apply Ex_cons; assumption
      apply Ex_Swap2; assumption; (k_dflt assumption); (k_dflt rfl); (k_dflt rfl)
      apply Ev_Tuple
      apply EvL_cons; (k_dflt rfl)
    with_reducible refine Ev_call O G (by k_allIn) (fun w => by k_dflt kernel_rfl!) (by k_dflt rfl) ?_
    with_reducible
      apply EvL_cons; (k_dflt rfl)
      apply Ev_loc; assumption; k_allIn
      apply EvL_cons; (k_dflt rfl)
      apply Ev_int
      apply EvL_nil
    refine OpL_FSn (fs_fallN 8 (by decide) hz b1) O hh (room_of hr rfl) (by decide) (by k_allIn) (fun w hw => ?_)
    with_reducible
      apply Appd.mk; k_allIn
      apply EvL_cons; (k_dflt rfl)
      apply Ev_BinOp
      apply Ev_int
    with_reducible refine Ev_call O G (by k_allIn) (fun w => by k_dflt kernel_rfl!) (by k_dflt rfl) ?_
    with_reducible
      apply EvL_cons; (k_dflt rfl)
      apply Ev_loc; assumption; k_allIn
      apply EvL_cons; (k_dflt rfl)
      apply Ev_int
      apply EvL_nil
    refine OpL_FSn (fs_fallN 6 (by decide) hz b2) O hh (room_of hr rfl) (by decide) (by k_allIn) (fun m hm => ?_)
    with_reducible
      apply Appd.mk; k_allIn
      apply add_ii
      apply EvL_nil
      apply new_tuple; (k_dflt exact Nat.le_of_ble_eq_true rfl)
      apply sw2
      apply Stored.mk; k_allIn
      apply Stored.mk; k_allIn
      apply Ex_cons; assumption
      apply Ex_If
      apply EvB_Compare; (k_dflt rfl)
      apply Ev_loc; assumption; k_allIn
      apply Ev_int
      apply lt_ii
      apply truthy_b
    rw [show ((97 : Int) + (m : Int)) = ((97 + m : Nat) : Int) from rfl]
    have hm1 : 97 + m ≤ 1114111 := Nat.le_trans (Nat.add_le_add_left (Nat.le_of_lt hm) 97) (by decide)
    have hcz : cs.length < 1000 := len20 (b := 999) hcs hi4 (by decide)
    obtain ⟨hs0, hs1⟩ := up20 hs'
    have fin : ∀ {x' : Str} {ys : List AV} {ds : List Int} {t : List Nat} {sg' : List (Nat × Bool)} {r : Addr} {st2 : Nat} {l1 l2 l3 l4 l5 : Option AV} {led' rest : Led}, Seg t sg' ds → x'.cps.toList = x.cps.toList ++ t → ys = lst ds → ds.length ≤ 5 → st2 ≤ st + 1 + 4 * (i + 1) →
        PickO led' [(r, .list (lst cs ++ ys)), (jar, .dS [(S "cells", .ref cl), (S "step", .int (st2 : Nat))]), (cl, .list (lst cells))] rest →
        Has led' (J (i + 1) [(S "jar", some (.ref jar)), (S "text", some (.str x')), (S "codes", some (.ref r)), (S "is_bad", some (.bool false)), (S "turn", l1), (S "way", l2), (S "code", l3), (S "last", l4), (S "back", l5)]) := by
      intro x' ys ds t sg' r st2 l1 l2 l3 l4 l5 led' rest hS hx' hy hd hs2 p
      have f4 := hS.facts.2.2.2
      refine Has.mk p ⟨x', cs ++ ds, r, st2, false, _, _, _, _, _, hs2, .inl ⟨rfl, sg ++ sg', by rw [hx']; exact hsg.snoc hS⟩, ?_, ?_, rfl, by rw [hy, lst_app]⟩
      · rw [← len_cps, hx', List.length_append, len_cps]; omega
      · rw [List.length_append]; omega
    have one : Seg [97 + m] [(97 + m, false)] [((97 + m : Nat) : Int)] := .one (.plain (by omega)) (fun e => absurd (congrArg Prod.fst e) (ne20 m)) hm1
    refine ⟨fun hb => ?_, fun hb => ?_⟩
    · with_reducible
        apply Ex_cons; assumption
        apply Ex_Swap2; assumption; (k_dflt assumption); (k_dflt rfl); (k_dflt rfl)
        apply Ev_Tuple
        apply EvL_cons; (k_dflt rfl)
        apply Ev_BinOp
        apply Ev_loc; assumption; k_allIn
        apply Ev_callB; assumption; assumption; k_allIn; (k_dflt rfl)
        apply EvL_cons; (k_dflt rfl)
        apply Ev_loc; assumption; k_allIn
        apply EvL_nil
      refine chr_n hm1 ?_
      refine add_st hx16 (show 1 < 1000 by decide) ?_
      with_reducible
        apply EvL_cons; (k_dflt rfl)
        apply Ev_BinOp
        apply Ev_loc; assumption; k_allIn
        apply Ev_List
        apply EvL_cons; (k_dflt rfl)
        apply Ev_loc; assumption; k_allIn
        apply EvL_nil
        apply new_list; assumption; (k_dflt exact Nat.le_of_ble_eq_true rfl); intro _
      refine add_lc O (by k_allIn) (by k_allIn) hcz (by exact Nat.le_of_ble_eq_true rfl) fun r => ?_
      with_reducible
        apply EvL_nil
        apply new_tuple; (k_dflt exact Nat.le_of_ble_eq_true rfl)
        apply sw2
        apply Stored.mk; k_allIn
        apply Stored.mk; k_allIn
        apply Ex_nil
        apply Ex_nil
      exact fin (ys := [.int ((97 + m : Nat) : Int)]) one (cps_app _ _) rfl (Nat.le_of_ble_eq_true rfl) hs0 (by k_allIn)
    with_reducible
      apply Ex_cons; assumption
      apply Ex_If
      apply EvB_Compare; (k_dflt rfl)
      apply Ev_loc; assumption; k_allIn
      apply Ev_int
      apply eq_ii
      apply truthy_b
    refine ⟨fun hb => ?_, fun hb => ?_⟩
    · with_reducible
        apply Ex_cons; assumption
        apply Ex_Swap2; assumption; (k_dflt assumption); (k_dflt rfl); (k_dflt rfl)
        apply Ev_Tuple
        apply EvL_cons; (k_dflt rfl)
        apply Ev_BinOp
        apply Ev_loc; assumption; k_allIn
        apply Ev_str
      refine add_st hx16 (by decide +kernel) ?_
      with_reducible
        apply EvL_cons; (k_dflt rfl)
        apply Ev_BinOp
        apply Ev_loc; assumption; k_allIn
        apply Ev_List
        apply EvL_cons; (k_dflt rfl)
        apply Ev_int
        apply EvL_nil
        apply new_list; assumption; (k_dflt exact Nat.le_of_ble_eq_true rfl); intro _
      refine add_lc O (by k_allIn) (by k_allIn) hcz (by exact Nat.le_of_ble_eq_true rfl) fun r => ?_
      with_reducible
        apply EvL_nil
        apply new_tuple; (k_dflt exact Nat.le_of_ble_eq_true rfl)
        apply sw2
        apply Stored.mk; k_allIn
        apply Stored.mk; k_allIn
        apply Ex_nil
        apply Ex_nil
        apply Ex_nil
      exact fin (ys := [.int 45]) (t := [92, 45]) (ds := [45]) (.one (c := 45) (.self (by unfold selfC; decide +kernel)) (fun e => Bool.noConfusion (congrArg Prod.snd e)) (by decide)) (cps_app _ _) rfl (by decide) hs0 (by k_allIn)
    with_reducible
      apply Ex_cons; assumption
      apply Ex_If
      apply EvB_Compare; (k_dflt rfl)
      apply Ev_loc; assumption; k_allIn
      apply Ev_int
      apply eq_ii
      apply truthy_b
    refine ⟨fun hb => ?_, fun hb => ?_⟩
    · obtain ⟨e1, e2, e3⟩ := esc_get (Nat.mod_lt (97 + m) (show 0 < 5 by decide))
      obtain ⟨k, hk⟩ : ∃ k, k = (97 + m) % 5 := ⟨_, rfl⟩
      rw [← hk] at e1 e2 e3
      with_reducible
        apply Ex_cons; assumption
        apply Ex_Swap2; assumption; (k_dflt assumption); (k_dflt rfl); (k_dflt rfl)
        apply Ev_Tuple
        apply EvL_cons; (k_dflt rfl)
        apply Ev_BinOp
        apply Ev_loc; assumption; k_allIn
        apply Ev_Sub
        apply Ev_List
        apply EvL_cons; (k_dflt rfl)
        apply Ev_str
        apply EvL_cons; (k_dflt rfl)
        apply Ev_str
        apply EvL_cons; (k_dflt rfl)
        apply Ev_str
        apply EvL_cons; (k_dflt rfl)
        apply Ev_str
        apply EvL_cons; (k_dflt rfl)
        apply Ev_str
        apply EvL_nil
        apply new_list; assumption; (k_dflt exact Nat.le_of_ble_eq_true rfl); intro _
        apply Ev_BinOp
        apply Ev_loc; assumption; k_allIn
        apply Ev_int
      refine mod_nn (j := 5) (by decide) ?_
      rw [← hk]
      refine sub_list (xs := escSs) (i := (k : Nat)) (by k_allIn) (Int.natCast_nonneg _) (by omega) (by rw [Int.toNat_natCast]; exact e1) (by intro _; with_unfolding_all rfl) ?_
      refine add_st hx16 (esc_len (hk ▸ Nat.mod_lt (97 + m) (by decide))) ?_
      with_reducible
        apply EvL_cons; (k_dflt rfl)
        apply Ev_BinOp
        apply Ev_loc; assumption; k_allIn
        apply Ev_List
        apply EvL_cons; (k_dflt rfl)
        apply Ev_Sub
        apply Ev_List
        apply EvL_cons; (k_dflt rfl)
        apply Ev_int
        apply EvL_cons; (k_dflt rfl)
        apply Ev_int
        apply EvL_cons; (k_dflt rfl)
        apply Ev_int
        apply EvL_cons; (k_dflt rfl)
        apply Ev_int
        apply EvL_cons; (k_dflt rfl)
        apply Ev_int
        apply EvL_nil
        apply new_list; assumption; (k_dflt exact Nat.le_of_ble_eq_true rfl); intro _
        apply Ev_BinOp
        apply Ev_loc; assumption; k_allIn
        apply Ev_int
      refine mod_nn (j := 5) (by decide) ?_
      rw [← hk]
      refine sub_list (xs := escCs) (i := (k : Nat)) (by k_allIn) (Int.natCast_nonneg _) (by omega) (by rw [Int.toNat_natCast]; exact e2) (by intro _; with_unfolding_all rfl) ?_
      with_reducible
        apply EvL_nil
        apply new_list; assumption; (k_dflt exact Nat.le_of_ble_eq_true rfl); intro _
      refine add_lc O (by k_allIn) (by k_allIn) hcz (by exact Nat.le_of_ble_eq_true rfl) fun r => ?_
      with_reducible
        apply EvL_nil
        apply new_tuple; (k_dflt exact Nat.le_of_ble_eq_true rfl)
        apply sw2
        apply Stored.mk; k_allIn
        apply Stored.mk; k_allIn
        apply Ex_nil
        apply Ex_nil
        apply Ex_nil
        apply Ex_nil
      exact fin (ys := [.int (escC k : Nat)]) e3 (cps_app _ _) rfl (Nat.le_of_ble_eq_true rfl) hs0 (by k_allIn)
    with_reducible
      apply Ex_cons; assumption
      apply Ex_If
      apply EvB_Compare; (k_dflt rfl)
      apply Ev_loc; assumption; k_allIn
      apply Ev_int
      apply eq_ii
      apply truthy_b
    refine ⟨fun hb => ?_, fun hb => ?_⟩
    · with_reducible
        apply Ex_cons; assumption
        apply Ex_Assign; assumption; (k_dflt rfl)
        apply Ev_BinOp
        apply Ev_loc; assumption; k_allIn
      with_reducible refine Ev_call O G (by k_allIn) (fun w => by k_dflt kernel_rfl!) (by k_dflt rfl) ?_
      with_reducible
        apply EvL_cons; (k_dflt rfl)
        apply Ev_loc; assumption; k_allIn
        apply EvL_cons; (k_dflt rfl)
        apply Ev_int
        apply EvL_nil
      refine OpL_FSn (fs_fallN 5 (by decide) hz b3) O hh (room_of hr rfl) (by decide) (by k_allIn) (fun q hq => ?_)
      with_reducible
        apply Appd.mk; k_allIn
        apply add_ii
        apply Stored.mk; k_allIn
        apply Ex_cons; assumption
        apply Ex_Swap2; assumption; (k_dflt assumption); (k_dflt rfl); (k_dflt rfl)
        apply Ev_Tuple
        apply EvL_cons; (k_dflt rfl)
        apply Ev_BinOp
        apply Ev_BinOp
        apply Ev_BinOp
        apply Ev_loc; assumption; k_allIn
        apply Ev_callB; assumption; assumption; k_allIn; (k_dflt rfl)
        apply EvL_cons; (k_dflt rfl)
        apply Ev_loc; assumption; k_allIn
        apply EvL_nil
      have hq2 : 97 + m + q ≤ 1114111 := Nat.le_trans (Nat.add_le_add_left (Nat.le_of_lt hq) _) (Nat.le_trans (Nat.add_le_add_right (Nat.add_le_add_left (Nat.le_of_lt hm) 97) 5) (by decide))
      rw [show (((97 + m : Nat) : Int) + (q : Int)) = ((97 + m + q : Nat) : Int) from rfl]
      have rg : Seg [97 + m, 45, 97 + m + q] [(97 + m, false), (45, false), (97 + m + q, false)] (rngL (97 + m) (97 + m + q)) := .rng (Nat.le_add_right _ _) (by omega) (by omega) (by omega) hq2
      refine chr_n hm1 ?_
      refine add_st hx16 (by exact Nat.le_of_ble_eq_true rfl) ?_
      with_reducible
        apply Ev_str
      refine add_st (by rw [str_len]; show x.length + 1 < 1000; omega) (by decide +kernel) ?_
      with_reducible
        apply Ev_callB; assumption; assumption; k_allIn; (k_dflt rfl)
        apply EvL_cons; (k_dflt rfl)
        apply Ev_loc; assumption; k_allIn
        apply EvL_nil
      refine chr_n hq2 ?_
      refine add_st (by rw [str_len, str_len]; show x.length + 1 + 1 < 1000; omega) (by exact Nat.le_of_ble_eq_true rfl) ?_
      with_reducible
        apply EvL_cons; (k_dflt rfl)
        apply Ev_BinOp
        apply Ev_loc; assumption; k_allIn
        apply Ev_callT; assumption; assumption; k_allIn; (k_dflt rfl)
        apply EvL_cons; (k_dflt rfl)
        apply Ev_callT; assumption; assumption; k_allIn; (k_dflt rfl)
        apply EvL_cons; (k_dflt rfl)
        apply Ev_loc; assumption; k_allIn
        apply EvL_cons; (k_dflt rfl)
        apply Ev_BinOp
        apply Ev_loc; assumption; k_allIn
        apply Ev_int
        apply add_ii
        apply EvL_nil
        apply range_2; assumption; intro _
        apply EvL_nil
      refine list_range O hh (by k_allIn) (by omega) (by omega) (by omega) (by omega) (by omega) fun r => ?_
      rw [show (((97 + m + q : Nat) : Int) + 1 - ((97 + m : Nat) : Int)).toNat = 97 + m + q + 1 - (97 + m) from by omega, rng_lst]
      refine add_lc O (by k_allIn) (by k_allIn) hcz (by rw [List.length_map, rngL_len]; omega) fun r => ?_
      with_reducible
        apply EvL_nil
        apply new_tuple; (k_dflt exact Nat.le_of_ble_eq_true rfl)
        apply sw2
        apply Stored.mk; k_allIn
        apply Stored.mk; k_allIn
        apply Ex_nil
        apply Ex_nil
        apply Ex_nil
        apply Ex_nil
        apply Ex_nil
      exact fin (ys := lst (rngL (97 + m) (97 + m + q))) rg (by rw [cps_app, cps_app, cps_app, List.append_assoc, List.append_assoc]; rfl) rfl (by rw [rngL_len]; omega) hs1 (by k_allIn)
    with_reducible
      apply Ex_cons; assumption
      apply Ex_If
      apply EvB_Compare; (k_dflt rfl)
      apply Ev_loc; assumption; k_allIn
      apply Ev_int
      apply eq_ii
      apply truthy_b
    refine ⟨fun hb => ?_, fun hb => ?_⟩
    · with_reducible
        apply Ex_cons; assumption
        apply Ex_Swap2; assumption; (k_dflt assumption); (k_dflt rfl); (k_dflt rfl)
        apply Ev_Tuple
        apply EvL_cons; (k_dflt rfl)
        apply Ev_BinOp
        apply Ev_loc; assumption; k_allIn
        apply Ev_str
      refine add_st hx16 (by decide +kernel) ?_
      with_reducible
        apply EvL_cons; (k_dflt rfl)
        apply Ev_BinOp
        apply Ev_loc; assumption; k_allIn
        apply Ev_List
        apply EvL_cons; (k_dflt rfl)
        apply Ev_int
        apply EvL_cons; (k_dflt rfl)
        apply Ev_int
        apply EvL_cons; (k_dflt rfl)
        apply Ev_int
        apply EvL_nil
        apply new_list; assumption; (k_dflt exact Nat.le_of_ble_eq_true rfl); intro _
      refine add_lc O (by k_allIn) (by k_allIn) hcz (by exact Nat.le_of_ble_eq_true rfl) fun r => ?_
      with_reducible
        apply EvL_nil
        apply new_tuple; (k_dflt exact Nat.le_of_ble_eq_true rfl)
        apply sw2
        apply Stored.mk; k_allIn
        apply Stored.mk; k_allIn
        apply Ex_nil
        apply Ex_nil
        apply Ex_nil
        apply Ex_nil
        apply Ex_nil
        apply Ex_nil
      exact fin (ys := [.int 48, .int 49, .int 50]) (t := [48, 45, 50]) (ds := rngL 48 50) (.rng (by decide) (by decide) (by decide) (by decide) (by decide)) (cps_app _ _) rfl (by decide) hs0 (by k_allIn)
    with_reducible
      apply Ex_cons; assumption
      apply Ex_Assign; assumption; (k_dflt rfl)
      apply Ev_BinOp
      apply Ev_BinOp
      apply Ev_loc; assumption; k_allIn
      apply Ev_int
      apply sub_ii
      apply Ev_BinOp
    with_reducible refine Ev_call O G (by k_allIn) (fun w => by k_dflt kernel_rfl!) (by k_dflt rfl) ?_
    with_reducible
      apply EvL_cons; (k_dflt rfl)
      apply Ev_loc; assumption; k_allIn
      apply EvL_cons; (k_dflt rfl)
      apply Ev_int
      apply EvL_nil
    refine OpL_FSn (fs_fallN 3 (by decide) hz b3) O hh (room_of hr rfl) (by decide) (by k_allIn) (fun q hq => ?_)
    with_reducible
      apply Appd.mk; k_allIn
      apply Ev_int
    refine mod_nn (j := 30) (by decide) ?_
    obtain ⟨B, hB⟩ : ∃ B, B = 97 + m - 1 - q % 30 := ⟨_, rfl⟩
    have hq30 : q % 30 = q := Nat.mod_eq_of_lt (Nat.lt_trans hq (by decide))
    have hB1 : B < 97 + m ∧ 93 ≤ B := by rw [hq30] at hB; omega
    with_reducible
      apply sub_ii
      apply Stored.mk; k_allIn
      apply Ex_cons; assumption
      apply Ex_Swap3; assumption; (k_dflt assumption); (k_dflt rfl); (k_dflt rfl)
      apply Ev_Tuple
      apply EvL_cons; (k_dflt rfl)
      apply Ev_BinOp
      apply Ev_loc; assumption; k_allIn
      apply Ev_IfExp
      apply EvB_Compare; (k_dflt rfl)
      apply Ev_loc; assumption; k_allIn
      apply Ev_int
      apply eq_ii
      apply truthy_b
    rw [show (((97 + m : Nat) : Int) - 1 - ((q % 30 : Nat) : Int)) = ((B : Nat) : Int) from by rw [hq30] at hB ⊢; omega]
    by_cases hi3 : i = 3
    · subst hi3
      refine .t (by decide) ?_
      with_reducible
        apply Ev_BinOp
        apply Ev_BinOp
        apply Ev_callB; assumption; assumption; k_allIn; (k_dflt rfl)
        apply EvL_cons; (k_dflt rfl)
        apply Ev_loc; assumption; k_allIn
        apply EvL_nil
      refine chr_n hm1 ?_
      with_reducible
        apply Ev_str
      refine add_st (by exact Nat.le_of_ble_eq_true rfl) (by decide +kernel) ?_
      with_reducible
        apply Ev_callB; assumption; assumption; k_allIn; (k_dflt rfl)
        apply EvL_cons; (k_dflt rfl)
        apply Ev_loc; assumption; k_allIn
        apply EvL_nil
      refine chr_n (Nat.le_trans (Nat.le_of_lt hB1.1) hm1) ?_
      refine add_st (by rw [str_len]; exact Nat.le_of_ble_eq_true rfl) (by exact Nat.le_of_ble_eq_true rfl) ?_
      refine add_st hx16 (by rw [str_len, str_len]; exact Nat.le_of_ble_eq_true rfl) ?_
      with_reducible
        apply EvL_cons; (k_dflt rfl)
        apply Ev_BinOp
        apply Ev_loc; assumption; k_allIn
        apply Ev_List
        apply EvL_cons; (k_dflt rfl)
        apply Ev_loc; assumption; k_allIn
        apply EvL_nil
        apply new_list; assumption; (k_dflt exact Nat.le_of_ble_eq_true rfl); intro _
      refine add_lc O (by k_allIn) (by k_allIn) hcz (by exact Nat.le_of_ble_eq_true rfl) fun r => ?_
      with_reducible
        apply EvL_cons; (k_dflt rfl)
        apply Ev_Or
        apply Ev_loc; assumption; k_allIn
        apply truthy_b
        refine Two.f rfl ?_
        apply Ev_Bool1
        apply Ev_Compare; (k_dflt rfl)
        apply Ev_loc; assumption; k_allIn
        apply Ev_int
        apply eq_ii
        apply EvL_nil
        apply new_tuple; (k_dflt exact Nat.le_of_ble_eq_true rfl)
        apply sw3
        apply Stored.mk; k_allIn
        apply Stored.mk; k_allIn
        apply Stored.mk; k_allIn
        apply Ex_nil
        apply Ex_nil
        apply Ex_nil
        apply Ex_nil
        apply Ex_nil
        apply Ex_nil
      rw [show (((3 : Nat) : Int) == 3) = true from rfl]
      refine Has.mk (led' := [(r, .list (lst cs ++ [.int ((97 + m : Nat) : Int)])), (jar, .dS [(S "cells", .ref cl), (S "step", .int ((st' + 1 + 1 + 1 : Nat) : Nat))]), (cl, .list (lst cells))]) (by k_allIn) ⟨_, cs ++ [((97 + m : Nat) : Int)], r, st' + 1 + 1 + 1, true, _, _, _, _, _, hs1, .inr ⟨rfl, rfl, x.cps.toList, sg, cs, 97 + m, B, hsg, Nat.lt_of_le_of_lt hcs (by decide), hB1.1, hm1, by omega, by omega, by omega, ?_⟩, ?_, ?_, rfl, ?_⟩
      · rw [cps_app, cps_app, cps_app]; rfl
      · rw [str_len, str_len, str_len]; show x.length + (1 + 1 + 1) ≤ 4 * 4; omega
      · rw [List.length_append, List.length_singleton]; omega
      · rw [lst_snoc]
    · refine .f (beq_eq_false_iff_ne.mpr (by omega)) ?_
      with_reducible
        apply Ev_callB; assumption; assumption; k_allIn; (k_dflt rfl)
        apply EvL_cons; (k_dflt rfl)
        apply Ev_loc; assumption; k_allIn
        apply EvL_nil
      refine chr_n hm1 ?_
      refine add_st hx16 (by exact Nat.le_of_ble_eq_true rfl) ?_
      with_reducible
        apply EvL_cons; (k_dflt rfl)
        apply Ev_BinOp
        apply Ev_loc; assumption; k_allIn
        apply Ev_List
        apply EvL_cons; (k_dflt rfl)
        apply Ev_loc; assumption; k_allIn
        apply EvL_nil
        apply new_list; assumption; (k_dflt exact Nat.le_of_ble_eq_true rfl); intro _
      refine add_lc O (by k_allIn) (by k_allIn) hcz (by exact Nat.le_of_ble_eq_true rfl) fun r => ?_
      with_reducible
        apply EvL_cons; (k_dflt rfl)
        apply Ev_Or
        apply Ev_loc; assumption; k_allIn
        apply truthy_b
        refine Two.f rfl ?_
        apply Ev_Bool1
        apply Ev_Compare; (k_dflt rfl)
        apply Ev_loc; assumption; k_allIn
        apply Ev_int
        apply eq_ii
        apply EvL_nil
        apply new_tuple; (k_dflt exact Nat.le_of_ble_eq_true rfl)
        apply sw3
        apply Stored.mk; k_allIn
        apply Stored.mk; k_allIn
        apply Stored.mk; k_allIn
        apply Ex_nil
        apply Ex_nil
        apply Ex_nil
        apply Ex_nil
        apply Ex_nil
        apply Ex_nil
      rw [show (((i : Nat) : Int) == 3) = false from beq_eq_false_iff_ne.mpr (by omega)]
      exact fin (ys := [.int ((97 + m : Nat) : Int)]) one (cps_app _ _) rfl (Nat.le_of_ble_eq_true rfl) hs1 (by k_allIn)
  · rintro loc led ⟨x, cs, cd, st', bad, l1, l2, l3, l4, l5, hs', hg, hx, hcs, rfl, rfl⟩
    rw [rng_len] at hs' hg hx hcs
    have hn4 : n ≤ 4 := Nat.le_of_lt_succ hn
    have hs2 : st' < 2 ^ 29 ∧ st' + 1 ≤ st + 30 := by omega
    have hx1 : x.length < 1000 := by omega
    have hc1 : cs.length < 90 := by omega
    have whole : ∀ {tt : List Nat} {sg1 : List (Nat × Bool)} {ct : List Int} {y : Str} {t0 sg0 cs0}, Segs t0 sg0 cs0 → Text tt sg1 → ∀ {b : Bool}, Parts sg1 ct b → Free sg1 → Bnd sg1 → sg1.length < 1000 → t0.length ≤ x.length → y.cps.toList = t0 ++ tt → tt.length < 1000 → Lst y (cs0 ++ ct) b := by
      intro tt sg1 ct y t0 sg0 cs0 hS hT b hP hF hB hl h0 hy ht
      obtain ⟨w1, w2, _⟩ := hS.whole hT hP hF
      obtain ⟨f1, f2, f3⟩ := hS.facts
      exact ⟨sg0 ++ sg1, by rw [hy]; exact w1, w2, by rw [← len_cps, hy, List.length_append]; omega, by rw [List.length_append]; omega, f2.append hB⟩
    have dT : Text [45] [(45, false)] := .cons (.plain (by decide)) .nil
    have dP : Parts [(45, false)] [45] false := .one .nil (fun e => nomatch e)
    have dF : Free [(45, false)] := fun _ => by decide
    have dB : Bnd [(45, false)] := bnd1 (by decide)
    have nF : Free [] := fun e => nomatch e
    have nB : Bnd [] := fun _ h => nomatch h
    with_reducible
      apply Appd.mk; k_allIn
      apply Ex_cons; assumption
      apply Ex_If
      apply EvB_Compare; (k_dflt rfl)
    with_reducible refine Ev_call O G (by k_allIn) (fun w => by k_dflt kernel_rfl!) (by k_dflt rfl) ?_
    with_reducible
      apply EvL_cons; (k_dflt rfl)
      apply Ev_loc; assumption; k_allIn
      apply EvL_cons; (k_dflt rfl)
      apply Ev_int
      apply EvL_nil
    refine OpL_FSn (fs_fallN 4 (by decide) hz hs2.1) O hh (room_of hr rfl) (by decide) (by k_allIn) (fun q hq => ?_)
    with_reducible
      apply Appd.mk; k_allIn
      apply Ev_int
      apply eq_ii
      apply truthy_b
    refine ⟨fun hb => ?_, fun hb => ?_⟩
    · with_reducible
        apply Ex_cons; assumption
        apply Ex_Swap2; assumption; (k_dflt assumption); (k_dflt rfl); (k_dflt rfl)
        apply Ev_Tuple
        apply EvL_cons; (k_dflt rfl)
        apply Ev_BinOp
        apply Ev_loc; assumption; k_allIn
        apply Ev_str
      refine add_st hx1 (by decide +kernel) ?_
      with_reducible
        apply EvL_cons; (k_dflt rfl)
        apply Ev_BinOp
        apply Ev_loc; assumption; k_allIn
        apply Ev_List
        apply EvL_cons; (k_dflt rfl)
        apply Ev_int
        apply EvL_nil
        apply new_list; assumption; (k_dflt exact Nat.le_of_ble_eq_true rfl); intro _
      refine add_lc O (by k_allIn) (by k_allIn) (Nat.lt_trans hc1 (by decide)) (by exact Nat.le_of_ble_eq_true rfl) fun r => ?_
      with_reducible
        apply EvL_nil
        apply new_tuple; (k_dflt exact Nat.le_of_ble_eq_true rfl)
        apply sw2
        apply Stored.mk; k_allIn
        apply Stored.mk; k_allIn
        apply Ex_nil
        apply Ex_cons; assumption
        apply Ex_Return
        apply Ev_Tuple
        apply EvL_cons; (k_dflt rfl)
        apply Ev_loc; assumption; k_allIn
        apply EvL_cons; (k_dflt rfl)
        apply Ev_IfExp
        apply EvB_plain; (k_dflt rfl)
        apply Ev_loc; assumption; k_allIn
        apply truthy_b
      rcases hg with ⟨rfl, sg, hsg⟩ | ⟨rfl, h4, t0, sg0, cs0, a', b', hS, hc0, hlt, ha, h1, h2, h3, ht⟩
      · with_reducible
          refine Two.f rfl ?_
          apply Ev_loc; assumption; k_allIn
          apply EvL_nil
          apply new_tuple; (k_dflt exact Nat.le_of_ble_eq_true rfl)
        exact Has.mk (led' := [(r, .list (lst cs ++ [.int 45])), (jar, .dS [(S "cells", .ref cl), (S "step", .int ((st' + 1 : Nat) : Nat))]), (cl, .list (lst cells))]) (by k_allIn) ⟨st' + 1, x ++ S "-", cs ++ [45], false, hs2.2, whole hsg dT dP dF dB (by decide) (Nat.le_of_eq (len_cps x)) (cps_app _ _) (by decide), hsg.facts.1.append low45, by rw [List.length_append]; exact Nat.lt_of_lt_of_le (Nat.add_lt_add_right hc1 1) (by decide), .inl ⟨rfl, r, rfl, by rw [← lst_app]; rfl⟩⟩
      · with_reducible
          refine Two.t rfl ?_
          apply Ev_none
          apply EvL_nil
          apply new_tuple; (k_dflt exact Nat.le_of_ble_eq_true rfl)
        exact Has.mk (led' := [(jar, .dS [(S "cells", .ref cl), (S "step", .int ((st' + 1 : Nat) : Nat))]), (cl, .list (lst cells))]) (by k_allIn) ⟨st' + 1, x ++ S "-", cs0 ++ [], true, hs2.2, whole (ct := []) hS (.cons (.plain h1) (.cons (.plain (by decide)) (.cons (.plain h2) dT))) (.back hlt) (fun e => absurd (congrArg Prod.fst (Option.some.inj e)) h3) ((bnd1 ha).append (dB.append ((bnd1 (Nat.le_trans (Nat.le_of_lt hlt) ha)).append dB))) (by show 4 < 1000; decide) (by rw [← len_cps, ht, List.length_append]; exact Nat.le_add_right _ _) (by rw [cps_app, ht, List.append_assoc]; rfl) (by show 4 < 1000; decide), hS.facts.1.append low0, by rw [List.append_nil]; exact Nat.lt_of_lt_of_le hc0 (by decide), .inr ⟨rfl, rfl, rfl⟩⟩
    · with_reducible
        apply Ex_nil
        apply Ex_cons; assumption
        apply Ex_Return
        apply Ev_Tuple
        apply EvL_cons; (k_dflt rfl)
        apply Ev_loc; assumption; k_allIn
        apply EvL_cons; (k_dflt rfl)
        apply Ev_IfExp
        apply EvB_plain; (k_dflt rfl)
        apply Ev_loc; assumption; k_allIn
        apply truthy_b
      rcases hg with ⟨rfl, sg, hsg⟩ | ⟨rfl, h4, t0, sg0, cs0, a', b', hS, hc0, hlt, ha, h1, h2, h3, ht⟩
      · with_reducible
          refine Two.f rfl ?_
          apply Ev_loc; assumption; k_allIn
          apply EvL_nil
          apply new_tuple; (k_dflt exact Nat.le_of_ble_eq_true rfl)
        exact Has.mk (led' := [(cd, .list (lst cs)), (jar, .dS [(S "cells", .ref cl), (S "step", .int ((st' + 1 : Nat) : Nat))]), (cl, .list (lst cells))]) (by k_allIn) ⟨st' + 1, x, cs, false, hs2.2, by have := whole (y := x) hsg .nil .nil nF nB (by decide) (Nat.le_of_eq (len_cps x)) (List.append_nil _).symm (by decide); rwa [List.append_nil] at this, hsg.facts.1, Nat.lt_of_lt_of_le hc1 (by decide), .inl ⟨rfl, cd, rfl, rfl⟩⟩
      · with_reducible
          refine Two.t rfl ?_
          apply Ev_none
          apply EvL_nil
          apply new_tuple; (k_dflt exact Nat.le_of_ble_eq_true rfl)
        exact Has.mk (led' := [(jar, .dS [(S "cells", .ref cl), (S "step", .int ((st' + 1 : Nat) : Nat))]), (cl, .list (lst cells))]) (by k_allIn) ⟨st' + 1, x, cs0 ++ [], true, hs2.2, whole (ct := []) hS (.cons (.plain h1) (.cons (.plain (by decide)) (.cons (.plain h2) .nil))) (.back hlt) (fun e => absurd (congrArg Prod.fst (Option.some.inj e)) h3) ((bnd1 ha).append (dB.append (bnd1 (Nat.le_trans (Nat.le_of_lt hlt) ha)))) (by show 3 < 1000; decide) (by rw [← len_cps, ht, List.length_append]; exact Nat.le_add_right _ _) ht (by show 3 < 1000; decide), hS.facts.1.append low0, by rw [List.append_nil]; exact Nat.lt_of_lt_of_le hc0 (by decide), .inr ⟨rfl, rfl, rfl⟩⟩


/-! ## texts of single signs -/
noncomputable abbrev mkS (cs : List Nat) : Str := ⟨cs.toArray⟩
theorem Str.ext' {x y : Str} (h : x.cps.toList = y.cps.toList) : x = y := by
  obtain ⟨a⟩ := x
  obtain ⟨b⟩ := y
  congr 1
  exact Array.toList_inj.mp h
theorem glue_cps : ∀ (l : List Str) (acc : Array Nat), ((l.foldl (fun acc p => acc ++ (S "").cps ++ p.cps) acc)).toList = acc.toList ++ (l.map fun u => u.cps.toList).flatten
  | [], acc => by rw [List.map_nil, List.flatten_nil, List.append_nil]; rfl
  | x :: r, acc => by
    rw [List.foldl_cons, glue_cps r, Array.toList_append, Array.toList_append, show (S "").cps.toList = [] from by decide +kernel, List.append_nil, List.map_cons, List.flatten_cons, List.append_assoc]
theorem join_cps (us : List Str) : (Txt.join (S "") us).cps.toList = (us.map fun u => u.cps.toList).flatten := by
  cases us with
  | nil => rfl
  | cons x r => exact glue_cps r x.cps
theorem join_one (cs : List Nat) : Txt.join (S "") (oneS cs) = mkS cs := by
  refine Str.ext' ?_
  rw [join_cps, List.map_map]
  show (cs.map fun c => [c]).flatten = _
  induction cs with
  | nil => rfl
  | cons c r ih => rw [List.map_cons, List.flatten_cons, ih]; rfl
/-! ## the Scalar that the law makes -/
noncomputable def ScalOk (val : AV) (txt : Str) : Prop := val = .str txt ∨ (∃ n : Nat, n < 4000 ∧ val = .int (n : Nat) ∧ txt = Str.ofString (toString (n : Int))) ∨ (val = .none ∧ txt = S "")
theorem signs17 {i : Nat} (h : i < 17) : ∃ c, (Str.ofString "aabbccdxyz-\n0123 ").cps.toList[i]? = some c ∧ c ≤ 1114111 := by
  have : ∀ i < 17, ((Str.ofString "aabbccdxyz-\n0123 ").cps.toList[i]?).any (· ≤ 1114111) = true := by decide +kernel
  have := this i h
  cases e : (Str.ofString "aabbccdxyz-\n0123 ").cps.toList[i]? with
  | none => rw [e] at this; cases this
  | some c => rw [e] at this; exact ⟨c, rfl, of_decide_eq_true this⟩
section
variable {sc : Scope} {a : Act sc} {loc : Loc} {led : Led} {K : KV}
theorem Ev_mono {t : Sem Value} (K' : KV) (h : Ev a t loc led K') (m : ∀ av l d, K' av l d → Has d (K av l)) : Ev a t loc led K := fun s R => wpAny_mono (h s R) (fun _ _ ⟨av, l, _, k, R', t, r⟩ => let ⟨d', k', R''⟩ := R'.has (m av l _ k); ⟨av, l, d', k', R'', t, r⟩) fun _ _ e => e
theorem Two_cut {b : Bool} {x y : Sem Value} (K' : KV) (h : Two b (Ev a x loc led K') (Ev a y loc led K')) (m : ∀ av l d, K' av l d → Has d (K av l)) : Two b (Ev a x loc led K) (Ev a y loc led K) := ⟨fun e => Ev_mono K' (h.1 e) m, fun e => Ev_mono K' (h.2 e) m⟩
end
theorem fs_set_pos {c cd hp p e x d wk : Addr} {val : AV} {pl : Option Int} : FS 597 2 [.ref c, .ref x, optA pl] [(c, .inst 579 cd), (cd, ctA hp p e), (p, .dI (plD none)), (e, .dI (plD none)), (x, .inst 117 d), (d, scA 1 wk val)] fun _ led => led = [(c, .inst 579 cd), (cd, ctA hp p e), (p, .dI (plD pl)), (e, .dI (plD none)), (x, .inst 117 d), (d, scA 1 wk val)] := by
  cases pl with
  | none => exact fs_set_pos_n
  | some i => exact fs_set_pos_i
theorem places3 {q : Nat} (h : q < 3) : ∃ pl, ([AV.none, .int 0, .int 2] : List AV)[q]? = some (optA pl) := by
  match q, h with
  | 0, _ => exact ⟨none, rfl⟩
  | 1, _ => exact ⟨some 0, rfl⟩
  | 2, _ => exact ⟨some 2, rfl⟩
theorem digit_char {d : Nat} (h : d < 10) : (Nat.digitChar d).toNat = 48 + d := by
  have : ∀ d < 10, (Nat.digitChar d).toNat = 48 + d := by decide
  exact this d h
theorem num_digits : ∀ (fuel f n : Nat) (ds : List Char) (x : Str), n < fuel → n ≤ f → x.cps.toList = (48 + n % 10) :: ds.map Char.toNat → (numGo f n x).cps.toList = (Nat.toDigitsCore 10 fuel n ds).map Char.toNat
  | 0, _, _, _, _, h, _, _ => absurd h (Nat.not_lt_zero _)
  | fuel + 1, f, n, ds, x, h, hf, hx => by
    have hd := digit_char (Nat.mod_lt n (show 0 < 10 by decide))
    unfold Nat.toDigitsCore
    by_cases h9 : n ≤ 9
    · have e : n / 10 = 0 := Nat.div_eq_of_lt (Nat.lt_succ_of_le h9)
      rw [if_pos e, List.map_cons, hd]
      cases f with
      | zero => exact hx
      | succ f => unfold numGo; rw [if_pos h9]; exact hx
    · have e : n / 10 ≠ 0 := by omega
      rw [if_neg e]
      cases f with
      | zero => omega
      | succ f =>
        unfold numGo
        rw [if_neg h9]
        refine num_digits fuel f (n / 10) _ _ (by omega) (by omega) ?_
        rw [cps_app, hx, List.map_cons, hd]; rfl
theorem num_text (n : Nat) : Str.ofString (toString (n : Int)) = numText n := by
  have := text_ofNat n
  rw [show ((n : Nat) : Int) = Int.ofNat n from rfl, this]
  refine Str.ext' ?_
  exact (num_digits (n + 1) n n [] _ (Nat.lt_succ_self _) (Nat.le_refl _) rfl).symm
theorem num_low : ∀ (f n : Nat) (x : Str), (∀ c ∈ x.cps.toList, c ≤ 1114111) → ∀ c ∈ (numGo f n x).cps.toList, c ≤ 1114111
  | 0, _, _, h => h
  | f + 1, n, x, h => by
    unfold numGo
    split
    · exact h
    · refine num_low f _ _ fun c hc => ?_
      rw [cps_app] at hc
      rcases List.mem_append.mp hc with h1 | h1
      · rw [List.mem_singleton.mp h1]; omega
      · exact h c h1
theorem num_facts {n : Nat} (h : n < 4000) : (Str.ofString (toString (n : Int))).cps.toList.length ≤ 16 ∧ ∀ c ∈ (Str.ofString (toString (n : Int))).cps.toList, c ≤ 1114111 := by
  refine ⟨?_, ?_⟩
  · rw [show ((n : Nat) : Int) = Int.ofNat n from rfl, text_ofNat n]
    show ((Nat.toDigits 10 n).map Char.toNat).length ≤ 16
    rw [List.length_map]
    exact Nat.le_trans (digits10_le (k := 4) (by decide) (Nat.lt_of_lt_of_le h (by decide))) (by decide)
  · rw [num_text]
    exact num_low _ _ _ fun c hc => by rw [List.mem_singleton.mp hc]; omega
theorem log_small {n : Nat} (h : n < 4000) : ((n : Int).natAbs).log2 < 1920 := by
  rw [Int.natAbs_natCast]
  by_cases h0 : n = 0
  · subst h0; decide
  · exact (Nat.log2_lt h0).mpr (Nat.lt_of_lt_of_le h (Nat.le_trans (show 4000 ≤ 2 ^ 12 by decide) (Nat.pow_le_pow_right (by decide) (by decide))))
theorem empty_cps : (S "").cps.toList = [] := by decide +kernel
inductive R21 (st : Nat) (Q : Nat → Addr → Addr → Addr → AV → Str → Option Int → Prop) : Prop
  | intro (st' : Nat) (x d wk : Addr) (val : AV) (txt : Str) (pl : Option Int) (h1 : st' ≤ st + 30) (h2 : ScalOk val txt) (h3 : txt.cps.toList.length ≤ 16) (h4 : ∀ c ∈ txt.cps.toList, c ≤ 1114111) (hq : Q st' x d wk val txt pl)
inductive T21 (st w : Nat) (Q : Str → Nat → Prop) : Prop
  | intro (txt : Str) (st' : Nat) (h1 : st' ≤ st + 20) (h2 : txt.cps.toList.length ≤ 16) (h3 : ∀ c ∈ txt.cps.toList, c ≤ 1114111) (h4 : w < 4 ∨ (w = 4 ∧ ∃ n : Nat, n < 4000 ∧ txt = Str.ofString (toString (n : Int))) ∨ (w = 5 ∧ txt = S "")) (hq : Q txt st')
theorem g669 : GOk (scf 669) [(S "_law_fall", .ref 647), (S "range", .type "range"), (S "str", .type "str"), (S "int", .type "int"), (S "set_pos", .ref 597)] := .cons (by decide +kernel) gl__law_fall (.cons (by decide +kernel) gl_range (.cons (by decide +kernel) gl_str (.cons (by decide +kernel) gl_int (.cons (by decide +kernel) gl_set_pos .nil))))
theorem fs_law_scalar {jar cl h hd lm z c cd p e : Addr} {cells : List Int} {st : Nat} (hz : cells.length < 1000000) (hst : st < 2 ^ 28) :
    FS 669 7 [.ref jar, .ref h, .ref c] [(jar, .dS [(S "cells", .ref cl), (S "step", .int (st : Nat))]), (cl, .list (lst cells)), (h, .inst 276 hd), (hd, hpA lm z 0), (c, .inst 579 cd), (cd, ctA h p e), (p, .dI (plD none)), (e, .dI (plD none))]
      fun v led => R21 st fun st' x d wk val txt pl => v = .tup [.ref x, val, .str txt, optA pl] ∧
        led = [(jar, .dS [(S "cells", .ref cl), (S "step", .int (st' : Nat))]), (cl, .list (lst cells)), (c, .inst 579 cd), (cd, ctA h p e), (p, .dI (plD pl)), (e, .dI (plD none)), (x, .inst 117 d), (d, scA 1 wk val)] := by
  refine FSX.introC (scf 669) [S "jar", S "heap", S "counter"] [(S "heap", some (.ref h)), (S "counter", some (.ref c)), (S "way", none), (S "text", none), (S "value", none), (S "scalar", none), (S "place", none)] [(S "jar", some (.ref jar))] [S "jar"] rfl (fun P => by rfl) (fun P => by kernel_rfl!) (by rfl) rfl (by decide +kernel) (fun vs h => len3 (P := fun vs => bindArgs _ ⟨vs, []⟩ = pure (([S "jar", S "heap", S "counter"]).zip vs)) (fun _ _ _ => rfl) vs h) (by decide +kernel) (show ([S "heap", S "counter", S "way", S "text", S "value", S "scalar", S "place"] : List Str).all (fun x => decide ((scf 669).names.lookup x = some .local) && !(x == ("__debug__" : Str))) = true from by decide +kernel) (show ([S "heap", S "counter", S "way", S "text", S "value", S "scalar", S "place"] : List Str).Nodup from by decide +kernel) (by decide +kernel) (by decide +kernel) (by rfl) (by rfl) (by rfl) (by intro _ _ h; revert h; exact InitL.mem (by repeat (first | exact InitL.nil | apply InitL.none | apply InitL.some | exact GetK.here | apply GetK.there)) _ _) (by intro _ _ h; revert h; exact InitL.mem (by repeat (first | exact InitL.nil | apply InitL.none | apply InitL.some | exact GetK.here | apply GetK.there)) _ _) ?_ (by decide)
  intro a ad O hr hh hcl Z
  have hc_jar := hcl (S "jar") (.head _)
  have G := g669
  refine Ex_cells (l := [(ad (S "jar"), AO.cell (some (.ref jar)))]) (by k_allIn) ?_
  with_reducible
    apply Ex_cons; assumption
    apply Ex_Assign; assumption; (k_dflt rfl)
  with_reducible refine Ev_call O G (by k_allIn) (fun w => by k_dflt kernel_rfl!) (by k_dflt rfl) ?_
  with_reducible
    apply EvL_cons; (k_dflt rfl)
    apply Ev_cell; assumption; (decide +kernel); assumption; k_allIn
    apply EvL_cons; (k_dflt rfl)
    apply Ev_int
    apply EvL_nil
  refine OpL_FSn (fs_fallN 6 (by decide) hz (Nat.lt_of_lt_of_le hst (by decide))) O hh (room_of hr rfl) (by decide) (by k_allIn) (fun w hw => ?_)
  with_reducible
    apply Appd.mk; k_allIn
    apply Stored.mk; k_allIn
    apply Ex_cons; assumption
    apply Ex_Assign; assumption; (k_dflt rfl)
    apply Ev_IfExp
    apply EvB_Compare; (k_dflt rfl)
    apply Ev_loc; assumption; k_allIn
    apply Ev_int
    apply lt_ii
    apply truthy_b
  let L1 : Nat → Led := fun st' => [(ad (S "jar"), .cell (some (.ref jar))), (jar, .dS [(S "cells", .ref cl), (S "step", .int (st' : Nat))]), (cl, .list (lst cells)), (h, .inst 276 hd), (hd, hpA lm z 0), (c, .inst 579 cd), (cd, ctA h p e), (p, .dI (plD none)), (e, .dI (plD none))]
  refine Two_cut (fun av l d => ∃ txt st', av = .str txt ∧ st' ≤ st + 20 ∧ txt.cps.toList.length ≤ 16 ∧ (∀ c ∈ txt.cps.toList, c ≤ 1114111) ∧ (w < 4 ∨ (w = 4 ∧ ∃ n : Nat, n < 4000 ∧ txt = Str.ofString (toString (n : Int))) ∨ (w = 5 ∧ txt = S "")) ∧
    l = [(S "heap", some (.ref h)), (S "counter", some (.ref c)), (S "way", some (.int (w : Nat))), (S "text", none), (S "value", none), (S "scalar", none), (S "place", none)] ∧ ∃ rest, PickO d (L1 st') rest) ⟨fun hb => ?_, fun hb => ?_⟩ ?_
  · have hw4 : w < 4 := by have := of_decide_eq_true hb; omega
    with_reducible refine Ev_meth (by with_unfolding_all rfl) (by k_dflt rfl) ?_
    with_reducible
      apply Ev_str
      apply MethA.mk; apply m_join
      apply EvL_cons; (k_dflt rfl)
    refine Ev_ListComp ad [S "turn"] O (by decide +kernel) (fun y hy => by cases List.mem_singleton.mp hy; exact hc_jar) (by intro _; rfl) ?_
    with_reducible
      apply Ev_callT; assumption; assumption; k_allIn; (k_dflt rfl)
      apply EvL_cons; (k_dflt rfl)
    with_reducible refine Ev_call O G (by k_allIn) (fun w => by k_dflt kernel_rfl!) (by k_dflt rfl) ?_
    with_reducible
      apply EvL_cons; (k_dflt rfl)
      apply Ev_cell; assumption; (decide +kernel); assumption; k_allIn
      apply EvL_cons; (k_dflt rfl)
      apply Ev_int
      apply EvL_nil
    refine OpL_FSn (fs_fallN 17 (by decide) hz (Nat.lt_of_lt_of_le (Nat.add_lt_add_right hst 1) (by decide))) O hh (room_of hr rfl) (by decide) (by k_allIn) (fun n hn => ?_)
    with_reducible
      apply Appd.mk; k_allIn
      apply EvL_nil
      apply range_1; assumption; intro _
    have hb2 : ∀ i k, i < n → k ≤ st + 2 + i → k < 2 ^ 29 := fun i k h1 h2 => by omega
    refine CompA.mk (rng 0 n) [_] _ (fun i acc led => ∃ cs st', acc = (oneS cs).map .str ∧ cs.length = i ∧ (∀ c ∈ cs, c ≤ 1114111) ∧ st' ≤ st + 2 + i ∧ led = L1 st') (.cons .here .nil) (by rw [rng_len]; omega) (iter_upto O hh (Nat.lt_trans hn (by decide))) (Has.mk (led' := L1 (st + 1 + 1)) (by k_allIn) ⟨[], _, rfl, rfl, fun _ h => (nomatch h), Nat.le_refl _, rfl⟩) ?_ ?_
    · rintro cc i av acc led O hcr hch hcl hav ⟨cs, st', rfl, rfl, hlow, hs', rfl⟩
      have G := GOk.two cc (x := S "_law_signs") (y := S "_law_fall") (by decide +kernel) gl__law_signs (by decide +kernel) gl__law_fall
      have hf := hcl (S "jar") (.head _)
      have hh : cc.hd = true := hch.trans hh
      obtain ⟨hi, rfl⟩ := rng_get0 hav
      refine asn_name O .here (ct_nil (.t rfl ?_))
      with_reducible
        apply Ev_Sub
        apply Ev_globS; assumption; assumption; k_allIn
      with_reducible refine Ev_call O G (by k_allIn) (fun w => by k_dflt kernel_rfl!) (by k_dflt rfl) ?_
      with_reducible
        apply EvL_cons; (k_dflt rfl)
        apply Ev_cell; assumption; (decide +kernel); assumption; k_allIn
        apply EvL_cons; (k_dflt rfl)
        apply Ev_int
        apply EvL_nil
      refine OpL_FSn (fs_fallN 17 (by decide) hz (hb2 _ _ hi hs')) O hh (room_of (hcr.trans hr) rfl) (by decide) (by k_allIn) (fun q hq => ?_)
      obtain ⟨k, hk, hk2⟩ := signs17 hq
      with_reducible
        apply Appd.mk; k_allIn
      refine sub_sn (by decide +kernel) hk (by intro _ _; with_unfolding_all rfl) (by intro _ _; rfl) ?_
      refine Has.mk (led' := L1 (st' + 1)) (by k_allIn) ⟨cs ++ [k], st' + 1, ?_, by rw [List.length_append]; rfl, fun c hc => ?_, by omega, rfl⟩
      · show _ = List.map _ (List.map _ (_ ++ _))
        rw [List.map_append, List.map_append]; rfl
      · rcases List.mem_append.mp hc with h | h
        · exact hlow c h
        · rw [List.mem_singleton.mp h]; exact hk2
    · rintro acc led ⟨cs, st', rfl, hl, hlow, hs', rfl⟩
      rw [rng_len] at hl hs'
      with_reducible
        apply Appd.mk; k_allIn
      intro D
      with_reducible
        apply EvL_nil
      refine join_s (by k_allIn) (by decide +kernel) (by rw [oneS_sum, List.length_map]; omega) ?_
      rw [join_one]
      exact ⟨_, st', rfl, by omega, by show cs.length ≤ 16; omega, hlow, .inl hw4, rfl, _, by k_allIn⟩
  · have hw4 : ¬ w < 4 := by have := of_decide_eq_false hb; omega
    with_reducible
      apply Ev_IfExp
      apply EvB_Compare; (k_dflt rfl)
      apply Ev_loc; assumption; k_allIn
      apply Ev_int
      apply eq_ii
      apply truthy_b
    refine ⟨fun hb => ?_, fun hb => ?_⟩
    · have hw : w = 4 := by have := eq_of_beq hb; omega
      with_reducible
        apply Ev_callT; assumption; assumption; k_allIn; (k_dflt rfl)
        apply EvL_cons; (k_dflt rfl)
      with_reducible refine Ev_call O G (by k_allIn) (fun w => by k_dflt kernel_rfl!) (by k_dflt rfl) ?_
      with_reducible
        apply EvL_cons; (k_dflt rfl)
        apply Ev_cell; assumption; (decide +kernel); assumption; k_allIn
        apply EvL_cons; (k_dflt rfl)
        apply Ev_int
        apply EvL_nil
      refine OpL_FSn (fs_fallN 4000 (by decide) hz (Nat.lt_of_lt_of_le (Nat.add_lt_add_right hst 1) (by decide))) O hh (room_of hr rfl) (by decide) (by k_allIn) (fun n hn => ?_)
      with_reducible
        apply Appd.mk; k_allIn
        apply EvL_nil
      refine str_i (log_small hn) ?_
      have hf := num_facts hn
      exact ⟨_, st + 1 + 1, rfl, by omega, hf.1, hf.2, .inr (.inl ⟨hw, n, hn, rfl⟩), rfl, _, by k_allIn⟩
    · have hw : w = 5 := by have := beq_eq_false_iff_ne.mp hb; omega
      with_reducible
        apply Ev_str
      exact ⟨_, st + 1, rfl, by omega, by rw [empty_cps]; decide, by rw [empty_cps]; exact fun _ h => (nomatch h), .inr (.inr ⟨hw, rfl⟩), rfl, _, by k_allIn⟩
  · rintro av l d ⟨txt, st', rfl, hs', hl, hlow, hT, rfl, rest, hp⟩
    refine Has.mk hp ?_
    with_reducible
      apply Stored.mk; k_allIn
      apply Ex_cons; assumption
      apply Ex_Assign; assumption; (k_dflt rfl)
      apply Ev_IfExp
      apply EvB_Compare; (k_dflt rfl)
      apply Ev_loc; assumption; k_allIn
      apply Ev_int
      apply lt_ii
      apply truthy_b
    refine Two_cut (fun av l d => ScalOk av txt ∧ l = [(S "heap", some (.ref h)), (S "counter", some (.ref c)), (S "way", some (.int (w : Nat))), (S "text", some (.str txt)), (S "value", none), (S "scalar", none), (S "place", none)] ∧ d = L1 st') ⟨fun hb => ?_, fun hb => ?_⟩ ?_
    · with_reducible
        apply Ev_loc; assumption; k_allIn
      exact ⟨.inl rfl, rfl, rfl⟩
    · have hw4 : ¬ w < 4 := by have := of_decide_eq_false hb; omega
      with_reducible
        apply Ev_IfExp
        apply EvB_Compare; (k_dflt rfl)
        apply Ev_loc; assumption; k_allIn
        apply Ev_int
        apply eq_ii
        apply truthy_b
      refine ⟨fun hb => ?_, fun hb => ?_⟩
      · have hw : w = 4 := by have := eq_of_beq hb; omega
        rcases hT with h1 | ⟨_, n, hn, rfl⟩ | ⟨h1, _⟩
        · exact absurd h1 hw4
        · with_reducible
            apply Ev_callT; assumption; assumption; k_allIn; (k_dflt rfl)
            apply EvL_cons; (k_dflt rfl)
            apply Ev_loc; assumption; k_allIn
            apply EvL_nil
          refine int_s (Int.natCast_nonneg _) (by omega) ?_
          exact ⟨.inr (.inl ⟨n, hn, rfl, rfl⟩), rfl, rfl⟩
        · omega
      · have hw : w = 5 := by have := beq_eq_false_iff_ne.mp hb; omega
        rcases hT with h1 | ⟨h1, _⟩ | ⟨_, rfl⟩
        · exact absurd h1 hw4
        · omega
        · with_reducible
            apply Ev_none
          exact ⟨.inr (.inr ⟨rfl, rfl⟩), rfl, rfl⟩
    rintro val l d ⟨hS, rfl, rfl⟩
    refine Has.mk (led' := L1 st') (by k_allIn) ?_
    with_reducible
      apply Stored.mk; k_allIn
      apply Ex_cons; assumption
      apply Ex_Assign; assumption; (k_dflt rfl)
    refine Ev_methI (pl := _) O (by with_unfolding_all rfl) (by k_dflt rfl) ?_
    with_reducible
      apply Ev_loc; assumption; k_allIn
    refine MethI.mk (by k_allIn) (by k_allIn) mt_new_scalar (by k_dflt rfl) ?_
    with_reducible
      apply EvL_cons; (k_dflt rfl)
      apply Ev_loc; assumption; k_allIn
      apply EvL_nil
    refine OpL_FS fs_new_scalar O hh (room_of hr rfl) (by decide) (by k_allIn) ?_
    rintro _ _ ⟨x, d, wk, rfl, rfl⟩
    rw [Int.zero_add]
    with_reducible
      apply Appd.mk; k_allIn
      apply Stored.mk; k_allIn
      apply Ex_cons; assumption
      apply Ex_Assign; assumption; (k_dflt rfl)
      apply Ev_Sub
      apply Ev_List
      apply EvL_cons; (k_dflt rfl)
      apply Ev_none
      apply EvL_cons; (k_dflt rfl)
      apply Ev_int
      apply EvL_cons; (k_dflt rfl)
      apply Ev_int
      apply EvL_nil
      apply new_list; assumption; (k_dflt exact Nat.le_of_ble_eq_true rfl); intro _
    with_reducible refine Ev_call O G (by k_allIn) (fun w => by k_dflt kernel_rfl!) (by k_dflt rfl) ?_
    with_reducible
      apply EvL_cons; (k_dflt rfl)
      apply Ev_cell; assumption; (decide +kernel); assumption; k_allIn
      apply EvL_cons; (k_dflt rfl)
      apply Ev_int
      apply EvL_nil
    refine OpL_FSn (fs_fallN 3 (by decide) hz (Nat.lt_of_le_of_lt hs' (by omega))) O hh (room_of hr rfl) (by decide) (by k_allIn) (fun q hq => ?_)
    obtain ⟨pl, hpl⟩ := places3 hq
    with_reducible
      apply Appd.mk; k_allIn
    refine sub_list (xs := [AV.none, .int 0, .int 2]) (av := optA pl) (by k_allIn) (Int.natCast_nonneg _) (by omega) (by rw [Int.toNat_natCast]; exact hpl) (by intro _; with_unfolding_all rfl) ?_
    with_reducible
      apply Stored.mk; k_allIn
      apply Ex_cons; assumption
      apply Ex_Expr; (k_dflt rfl); (k_dflt rfl)
    with_reducible refine Ev_call O G (by k_allIn) (fun w => by k_dflt kernel_rfl!) (by k_dflt rfl) ?_
    with_reducible
      apply EvL_cons; (k_dflt rfl)
      apply Ev_loc; assumption; k_allIn
      apply EvL_cons; (k_dflt rfl)
      apply Ev_loc; assumption; k_allIn
      apply EvL_cons; (k_dflt rfl)
      apply Ev_loc; assumption; k_allIn
      apply EvL_nil
    refine OpL_FS fs_set_pos O hh (room_of hr rfl) (by decide) (by k_allIn) ?_
    rintro _ _ rfl
    with_reducible
      apply Appd.mk; k_allIn
      apply Ex_cons; assumption
      apply Ex_Return
      apply Ev_Tuple
      apply EvL_cons; (k_dflt rfl)
      apply Ev_loc; assumption; k_allIn
      apply EvL_cons; (k_dflt rfl)
      apply Ev_loc; assumption; k_allIn
      apply EvL_cons; (k_dflt rfl)
      apply Ev_loc; assumption; k_allIn
      apply EvL_cons; (k_dflt rfl)
      apply Ev_loc; assumption; k_allIn
      apply EvL_nil
      apply new_tuple; (k_dflt exact Nat.le_of_ble_eq_true rfl)
    exact Has.mk (led' := [(jar, .dS [(S "cells", .ref cl), (S "step", .int ((st' + 1 : Nat) : Nat))]), (cl, .list (lst cells)), (c, .inst 579 cd), (cd, ctA h p e), (p, .dI (plD pl)), (e, .dI (plD none)), (x, .inst 117 d), (d, scA 1 wk val)]) (by k_allIn) ⟨st' + 1, x, d, wk, val, txt, pl, by omega, hS, hl, hlow, rfl, rfl⟩


/-! ## what one sign becomes, by the law -/
noncomputable def pickC (goals : List Int) (del : Bool) (c place : Int) : Int := if place < goals.length then goals.getD place.toNat 0 else if del then -2 else if goals.isEmpty then c else goals.getLastD 0
noncomputable def madeC (tn : Bool) (c1 once goals : List Int) (del : Bool) (c : Int) : Option Int :=
  if tn then (if once.contains c then none else some (pickC goals del c (c - ((once.filter fun o => decide (o < c)).length : Nat))))
  else (if once.contains c then some (pickC goals del c (c1.idxOf c : Nat)) else none)
noncomputable abbrev optI (o : Option Int) : AV := match o with | none => .none | some i => .int i
theorem filtI_snoc {p : Int → Bool} {l : List Int} {i : Nat} {c : Int} (h : l[i]? = some c) : (l.take (i + 1)).filter p = (l.take i).filter p ++ if p c then [c] else [] := by
  rw [List.take_add_one, h, Option.toList_some, List.filter_append]
  cases hp : p c <;> simp [hp]
section
variable {sc : Scope} {a : Act sc} {loc : Loc} {led : Led} {KS : KSt}
theorem Ex_mono {t : Sem Flow} (K' : KSt) (h : Ex a t loc led K') (m : ∀ af l d, K' af l d → Has d (KS af l)) : Ex a t loc led KS := fun s R => wpAny_mono (h s R) (fun _ _ p => p.imp (fun ⟨af, l, _, k, R', t, r⟩ => let ⟨d', k', R''⟩ := R'.has (m af l _ k); ⟨af, l, d', k', R'', t, r⟩) id) fun _ _ e => e
end
theorem lst_app' (a b : List Int) : lst a ++ lst b = lst (a ++ b) := List.map_append.symm
theorem idx_lt {c1 : List Int} {c : Int} (h : c ∈ c1) : c1.idxOf c < c1.length := List.idxOf_lt_length_iff.mpr h
theorem g659 : GOk (scf 659) [(S "len", .builtin "len")] := .cons (by decide +kernel) gl_len .nil
theorem fs_law_made {sd od gd : Addr} {c1 once goals : List Int} {f : Str} {c : Int} (hz1 : c1.length < 1000) (hz2 : once.length < 1000) (hz3 : goals.length < 1000) (hsub : ∀ k ∈ once, k ∈ c1)
    (hpl : hasF f 99 = true → 0 ≤ c - ((once.filter fun o => decide (o < c)).length : Nat)) :
    FS 659 2 [.int c, .ref sd, .ref od, .ref gd, .str f] [(sd, .list (lst c1)), (od, .list (lst once)), (gd, .list (lst goals))] fun v led => v = optI (madeC (hasF f 99) c1 once goals (hasF f 100) c) ∧ led = [(sd, .list (lst c1)), (od, .list (lst once)), (gd, .list (lst goals))] := by
  refine FSX.introC (scf 659) [S "code", S "sources", S "once", S "goals", S "flags"] [(S "sources", some (.ref sd)), (S "once", some (.ref od)), (S "goals", some (.ref gd)), (S "flags", some (.str f)), (S "place", none)] [(S "code", some (.int c))] [S "code"] rfl (fun P => by rfl) (fun P => by kernel_rfl!) (by rfl) rfl (by decide +kernel) (fun vs h => len5 (P := fun vs => bindArgs _ ⟨vs, []⟩ = pure (([S "code", S "sources", S "once", S "goals", S "flags"]).zip vs)) (fun _ _ _ _ _ => rfl) vs h) (by decide +kernel) (show ([S "sources", S "once", S "goals", S "flags", S "place"] : List Str).all (fun x => decide ((scf 659).names.lookup x = some .local) && !(x == ("__debug__" : Str))) = true from by decide +kernel) (show ([S "sources", S "once", S "goals", S "flags", S "place"] : List Str).Nodup from by decide +kernel) (by decide +kernel) (by decide +kernel) (by rfl) (by rfl) (by rfl) (by intro _ _ h; revert h; exact InitL.mem (by repeat (first | exact InitL.nil | apply InitL.none | apply InitL.some | exact GetK.here | apply GetK.there)) _ _) (by intro _ _ h; revert h; exact InitL.mem (by repeat (first | exact InitL.nil | apply InitL.none | apply InitL.some | exact GetK.here | apply GetK.there)) _ _) ?_ (by decide)
  intro a ad O hr hh hcl Z
  have hc_code := hcl (S "code") (.head _)
  have G := g659
  refine Ex_cells (l := [(ad (S "code"), AO.cell (some (.int c)))]) (by k_allIn) ?_
  let L0 : Led := [(sd, .list (lst c1)), (od, .list (lst once)), (gd, .list (lst goals))]
  let L1 : Led := [(ad (S "code"), .cell (some (.int c))), (sd, .list (lst c1)), (od, .list (lst once)), (gd, .list (lst goals))]
  generalize hM : madeC (hasF f 99) c1 once goals (hasF f 100) c = M
  replace hM := Eq.symm hM
  refine Ex_cons O (Ex_mono (fun af l d => (af = .ret .none ∧ M = none ∧ ∃ rest, PickO d L0 rest) ∨ (af = .next ∧ ∃ place, M = some (pickC goals (hasF f 100) c place) ∧ 0 ≤ place ∧
    l = [(S "sources", some (.ref sd)), (S "once", some (.ref od)), (S "goals", some (.ref gd)), (S "flags", some (.str f)), (S "place", some (.int place))] ∧ ∃ rest, PickO d L1 rest)) ?_ ?_)
  · with_reducible
      apply Ex_If
      apply EvB_Compare; (k_dflt rfl)
      apply Ev_str
      apply Ev_loc; assumption; k_allIn
    refine in_S (c := 99) (by decide +kernel) ?_
    with_reducible
      apply truthy_b
    refine ⟨fun hb => ?_, fun hb => ?_⟩
    · have hpl := hpl hb
      rw [hb] at hM
      unfold madeC at hM
      rw [if_pos rfl] at hM
      with_reducible
        apply Ex_cons; assumption
        apply Ex_If
        apply EvB_Compare; (k_dflt rfl)
        apply Ev_cell; assumption; (decide +kernel); assumption; k_allIn
        apply Ev_loc; assumption; k_allIn
      refine in_l (by k_allIn) ?_
      with_reducible
        apply truthy_b
      refine ⟨fun hb2 => ?_, fun hb2 => ?_⟩
      · with_reducible
          apply Ex_cons; assumption
          apply Ex_Return
          apply Ev_none
        exact .inl ⟨rfl, by rw [hM, if_pos hb2], _, by k_allIn⟩
      · with_reducible
          apply Ex_nil
          apply Ex_cons; assumption
          apply Ex_Assign; assumption; (k_dflt rfl)
          apply Ev_BinOp
          apply Ev_cell; assumption; (decide +kernel); assumption; k_allIn
          apply Ev_callB; assumption; assumption; k_allIn; (k_dflt rfl)
          apply EvL_cons; (k_dflt rfl)
        refine Ev_ListComp ad [S "one"] O (by decide +kernel) (fun y hy => by cases List.mem_singleton.mp hy; exact hc_code) (by intro _; rfl) ?_
        with_reducible
          apply Ev_loc; assumption; k_allIn
        refine CompA.mke (lst once) [(od, .list (lst once))] _ ([(ad (S "code"), .cell (some (.int c))), (sd, .list (lst c1)), (gd, .list (lst goals))]) (fun i => lst ((once.take i).filter fun o => decide (o < c))) (.cons (.there (.there .here)) .nil) (by rw [List.length_map]; omega) (iter_list O hh) (by k_allIn) rfl ?_ ?_
        · intro cc i av O hcr hch hcl hav
          have hf := hcl (S "code") (.head _)
          rw [List.getElem?_map] at hav
          obtain ⟨o, ho, rfl⟩ := Option.map_eq_some_iff.mp hav
          have hs := filtI_snoc (p := fun o => decide (o < c)) ho
          refine asn_name O .here (ct_one ?_)
          with_reducible
            apply EvB_Compare; (k_dflt rfl)
            apply Ev_loc; assumption; k_allIn
            apply Ev_cell; assumption; (decide +kernel); assumption; k_allIn
            apply lt_ii
            apply truthy_b
          refine ⟨fun hb => ?_, fun hb => ?_⟩
          · rw [hb, if_pos rfl] at hs
            with_reducible
              apply Ev_loc; assumption; k_allIn
            exact Has.mk (led' := [(ad (S "code"), .cell (some (.int c))), (sd, .list (lst c1)), (gd, .list (lst goals))]) (by k_allIn) ⟨by rw [hs, ← lst_app']; rfl, rfl⟩
          · rw [hb, if_neg (by decide), List.append_nil] at hs
            exact Has.mk (led' := [(ad (S "code"), .cell (some (.int c))), (sd, .list (lst c1)), (gd, .list (lst goals))]) (by k_allIn) ⟨by rw [hs], rfl⟩
        · skip
          rw [List.length_map, List.take_length]
          with_reducible
            apply Appd.mk; k_allIn
          intro D
          have hfl : (once.filter fun o => decide (o < c)).length < 1000000 := Nat.lt_of_le_of_lt (List.length_filter_le _ _) (Nat.lt_trans hz2 (by decide))
          with_reducible
            apply EvL_nil
            apply len_lst; k_allIn; assumption
            apply sub_ii
            apply Stored.mk; k_allIn
            apply Ex_nil
          exact .inr ⟨rfl, _, by rw [hM, if_neg (by rw [hb2]; decide)], hpl, rfl, _, by k_allIn⟩
    · rw [hb] at hM
      unfold madeC at hM
      rw [if_neg (by decide)] at hM
      with_reducible
        apply Ex_cons; assumption
        apply Ex_If
        apply EvB_Compare; (k_dflt rfl)
        apply Ev_cell; assumption; (decide +kernel); assumption; k_allIn
        apply Ev_loc; assumption; k_allIn
      refine notin_l (by k_allIn) ?_
      with_reducible
        apply truthy_b
      refine ⟨fun hb2 => ?_, fun hb2 => ?_⟩
      · have hb2 : once.contains c = false := by simpa using hb2
        with_reducible
          apply Ex_cons; assumption
          apply Ex_Return
          apply Ev_none
        exact .inl ⟨rfl, by rw [hM, if_neg (by rw [hb2]; decide)], _, by k_allIn⟩
      · have hb2 : once.contains c = true := by simpa using hb2
        have hin : c ∈ c1 := hsub c (List.contains_iff_mem.mp hb2)
        with_reducible
          apply Ex_nil
          apply Ex_cons; assumption
          apply Ex_Assign; assumption; (k_dflt rfl)
        with_reducible refine Ev_meth (by with_unfolding_all rfl) (by k_dflt rfl) ?_
        with_reducible
          apply Ev_loc; assumption; k_allIn
          apply MethA.mk; apply m_index; k_allIn
          apply EvL_cons; (k_dflt rfl)
          apply Ev_cell; assumption; (decide +kernel); assumption; k_allIn
          apply EvL_nil
        refine index_l (by k_allIn) hin (Nat.le_of_lt (Nat.lt_trans hz1 (by decide))) ?_
        with_reducible
          apply Stored.mk; k_allIn
          apply Ex_nil
        exact .inr ⟨rfl, _, by rw [hM, if_pos hb2], Int.natCast_nonneg _, rfl, _, by k_allIn⟩
  · rintro af l d (⟨rfl, e, rest, hp⟩ | ⟨rfl, place, e, h0, rfl, rest, hp⟩)
    · refine Has.mk hp ?_
      exact Has.mk (led' := L0) (by k_allIn) ⟨by rw [e], rfl⟩
    · refine Has.mk hp ?_
      with_reducible
        apply Ex_cons; assumption
        apply Ex_If
        apply EvB_Compare; (k_dflt rfl)
        apply Ev_loc; assumption; k_allIn
        apply Ev_callB; assumption; assumption; k_allIn; (k_dflt rfl)
        apply EvL_cons; (k_dflt rfl)
        apply Ev_loc; assumption; k_allIn
        apply EvL_nil
        apply len_list; k_allIn; (k_dflt (simp only [List.length_map, List.length_append, List.length_cons, List.length_nil] <;> omega))
        apply lt_ii
        apply truthy_b
      rw [List.length_map]
      refine ⟨fun hb => ?_, fun hb => ?_⟩
      · have hlt := of_decide_eq_true hb
        with_reducible
          apply Ex_cons; assumption
          apply Ex_Return
          apply Ev_Sub
          apply Ev_loc; assumption; k_allIn
          apply Ev_loc; assumption; k_allIn
        refine sub_list (av := .int (goals.getD place.toNat 0)) (by k_allIn) h0 (by omega) (lst_get (by omega)) (by intro _; with_unfolding_all rfl) ?_
        exact Has.mk (led' := L0) (by k_allIn) ⟨by rw [e]; unfold pickC; rw [if_pos hlt], rfl⟩
      · have hge := of_decide_eq_false hb
        with_reducible
          apply Ex_nil
          apply Ex_cons; assumption
          apply Ex_If
          apply EvB_Compare; (k_dflt rfl)
          apply Ev_str
          apply Ev_loc; assumption; k_allIn
        refine in_S (c := 100) (by decide +kernel) ?_
        with_reducible
          apply truthy_b
        refine ⟨fun hd => ?_, fun hd => ?_⟩
        · with_reducible
            apply Ex_cons; assumption
            apply Ex_Return
            apply Ev_UnaryOp
            apply Ev_int
            apply neg_i
          exact Has.mk (led' := L0) (by k_allIn) ⟨by rw [e]; unfold pickC; rw [if_neg hge, if_pos hd], rfl⟩
        · with_reducible
            apply Ex_nil
            apply Ex_cons; assumption
            apply Ex_Return
            apply Ev_IfExp
            apply EvB_Compare; (k_dflt rfl)
            apply Ev_loc; assumption; k_allIn
            apply Ev_List
            apply EvL_nil
            apply new_list; assumption; (k_dflt exact Nat.le_of_ble_eq_true rfl); intro _
            apply eq_nil; assumption; k_allIn; k_allIn
            apply truthy_b
          refine ⟨fun hg => ?_, fun hg => ?_⟩
          · with_reducible
              apply Ev_cell; assumption; (decide +kernel); assumption; k_allIn
            exact Has.mk (led' := L0) (by k_allIn) ⟨by rw [e]; unfold pickC; rw [if_neg hge, if_neg (by rw [hd]; decide), if_pos (by simpa using hg)], rfl⟩
          · have hne : goals ≠ [] := by rintro rfl; cases hg
            with_reducible
              apply Ev_Sub
              apply Ev_loc; assumption; k_allIn
              apply Ev_UnaryOp
              apply Ev_int
              apply neg_i
            refine sub_list_last (x := .int (goals.getLastD 0)) (by k_allIn) (by rw [List.getLast?_map]; cases goals with | nil => exact absurd rfl hne | cons x xs => rw [List.getLast?_cons, List.getLastD_cons, List.getLastD_eq_getLast?]; rfl) (by rw [List.length_map]; omega) (by intro _; with_unfolding_all rfl) ?_
            exact Has.mk (led' := L0) (by k_allIn) ⟨by rw [e]; unfold pickC; rw [if_neg hge, if_neg (by rw [hd]; decide), if_neg (by simpa using hne)], rfl⟩


/-! ## a text by the law -/
noncomputable abbrev TS := Str × Option Int
noncomputable def stepW (m : Int → Option Int) (sq : Bool) (st : TS) (c : Nat) : TS :=
  (m c).elim (st.1 ++ ⟨#[c]⟩, none) fun k => if decide (0 ≤ k) && !(sq && st.2 == some k) then (st.1 ++ chrS k, some k) else st
noncomputable def runW (m : Int → Option Int) (sq : Bool) (x : List Nat) : TS := x.foldl (stepW m sq) (S "", none)
noncomputable def cntW (m : Int → Option Int) (x : List Nat) : Nat := (x.filter fun c : Nat => (m (c : Int)).isSome).length
theorem runW_snoc {m : Int → Option Int} {sq : Bool} {x : List Nat} {i c : Nat} (h : x[i]? = some c) : runW m sq (x.take (i + 1)) = stepW m sq (runW m sq (x.take i)) c := by
  unfold runW
  rw [List.take_add_one, h, Option.toList_some, List.foldl_append]; rfl
theorem stepW_len (m : Int → Option Int) (sq : Bool) (st : TS) (c : Nat) : (stepW m sq st c).1.length ≤ st.1.length + 1 := by
  unfold stepW
  cases m c with
  | none => rw [Option.elim_none, str_len]; exact Nat.le_refl _
  | some k =>
    rw [Option.elim_some]
    split
    · rw [str_len]; exact Nat.le_refl _
    · exact Nat.le_succ _
theorem runW_len (m : Int → Option Int) (sq : Bool) (x : List Nat) : (runW m sq x).1.length ≤ x.length := by
  have key : ∀ (x : List Nat) (st : TS), (x.foldl (stepW m sq) st).1.length ≤ st.1.length + x.length := by
    intro x
    induction x with
    | nil => intro st; exact Nat.le_refl _
    | cons c r ih =>
      intro st
      have := stepW_len m sq st c
      refine Nat.le_trans (ih _) ?_
      rw [List.length_cons]; omega
  exact Nat.le_trans (key x _) (by show 0 + _ ≤ _; omega)
theorem pigeon : ∀ (n : Nat) (l : List Int), l.Nodup → (∀ k ∈ l, 0 ≤ k ∧ k < (n : Int)) → l.length ≤ n
  | 0, [], _, _ => Nat.le_refl _
  | 0, k :: l, _, h => by have := h k (.head _); omega
  | n + 1, l, hn, h => by
    by_cases hm : (n : Int) ∈ l
    · have := pigeon n (l.erase (n : Int)) (hn.erase _) fun k hk => by
        have h1 := h k (List.mem_of_mem_erase hk)
        have h2 : k ≠ (n : Int) := fun e => (List.Nodup.mem_erase_iff hn).mp hk |>.1 e
        omega
      rw [List.length_erase_of_mem hm] at this
      omega
    · exact Nat.le_succ_of_le (pigeon n l hn fun k hk => by
        have h1 := h k hk
        have h2 : k ≠ (n : Int) := fun e => hm (e ▸ hk)
        omega)
theorem place_ok {c1 : List Int} (h1 : Low c1) (c : Nat) : 0 ≤ (c : Int) - (((keysL c1).filter fun o => decide (o < (c : Int))).length : Nat) := by
  have := pigeon c ((keysL c1).filter fun o => decide (o < (c : Int))) ((keysL_nodup c1).filter _) fun k hk => by
    obtain ⟨h, h'⟩ := List.mem_filter.mp hk
    exact ⟨(h1 k ((mem_keysL c1 k).mp h)).1, of_decide_eq_true h'⟩
  omega
theorem pick_low {goals : List Int} {del : Bool} {c : Nat} {place : Int} (h3 : Low goals) (hc : c ≤ 1114111) : pickC goals del c place = -2 ∨ (0 ≤ pickC goals del c place ∧ pickC goals del c place ≤ 1114111) := by
  unfold pickC
  have hd : ∀ i, 0 ≤ goals.getD i 0 ∧ goals.getD i 0 ≤ 1114111 := fun i => by
    rw [List.getD_eq_getElem?_getD]
    cases e : goals[i]? with
    | none => exact ⟨Int.le_refl _, by decide⟩
    | some k => exact h3 k (List.mem_of_getElem? e)
  split
  · exact .inr (hd _)
  · split
    · exact .inl rfl
    · split
      · exact .inr ⟨Int.natCast_nonneg _, by omega⟩
      · refine .inr ?_
        rw [List.getLastD_eq_getLast?]
        cases e : goals.getLast? with
        | none => exact ⟨Int.le_refl _, by decide⟩
        | some k => exact h3 k (List.mem_of_getLast? e)
theorem made_low {tn : Bool} {c1 once goals : List Int} {del : Bool} {c : Nat} {k : Int} (h3 : Low goals) (hc : c ≤ 1114111) (e : madeC tn c1 once goals del c = some k) : k = -2 ∨ (0 ≤ k ∧ k ≤ 1114111) := by
  unfold madeC at e
  split at e <;> split at e
  · cases e
  · cases e; exact pick_low h3 hc
  · cases e; exact pick_low h3 hc
  · cases e
noncomputable abbrev rowA (m : Int → Option Int) (c : Nat) : AV := .tup [.str ⟨#[c]⟩, optI (m c)]
theorem isNone_optI (o : Option Int) : (optI o).isNone = o.isNone := by cases o <;> rfl
section
variable {sc : Scope} {a : Act sc} {loc : Loc} {led : Led} {K : KV}
theorem eq_io {i : Int} {o : Option Int} (k : K (.bool (o == some i)) loc led) : Op2 a (compareOp .Eq) (.int i) (optI o) loc led K := by
  cases o with
  | none => exact eq_in k
  | some j => exact eq_ii (by rw [show (i == j) = (some j == some i) from by rw [Bool.beq_comm (a := i)]; rfl]; exact k)
end
theorem g664 : GOk (scf 664) [(S "list", .type "list"), (S "dict", .type "dict"), (S "chr", .builtin "chr"), (S "len", .builtin "len")] := .cons (by decide +kernel) gl_list (.cons (by decide +kernel) gl_dict (.cons (by decide +kernel) gl_chr (.cons (by decide +kernel) gl_len .nil)))
theorem fs_law_turned {sd gd : Addr} {c1 goals : List Int} {f x : Str} (hz1 : c1.length < 1000) (hz3 : goals.length < 1000) (h1 : Low c1) (h3 : Low goals) (hx : x.cps.toList.length ≤ 16) (hc : ∀ c ∈ x.cps.toList, c ≤ 1114111) :
    FS 664 4 [.str x, .ref sd, .ref gd, .str f] [(sd, .list (lst c1)), (gd, .list (lst goals))] fun v led =>
      v = .tup [.str (runW (madeC (hasF f 99) c1 (keysL c1) goals (hasF f 100)) (hasF f 115) x.cps.toList).1, .int (cntW (madeC (hasF f 99) c1 (keysL c1) goals (hasF f 100)) x.cps.toList : Nat)] ∧ led = [(sd, .list (lst c1)), (gd, .list (lst goals))] := by
  refine FSX.introC (scf 664) [S "text", S "sources", S "goals", S "flags"] [(S "text", some (.str x)), (S "sign", none), (S "rows", none), (S "found", none), (S "latest", none), (S "code", none)] [(S "sources", some (.ref sd)), (S "goals", some (.ref gd)), (S "flags", some (.str f)), (S "once", none)] [S "sources", S "goals", S "flags", S "once"] rfl (fun P => by rfl) (fun P => by kernel_rfl!) (by rfl) rfl (by decide +kernel) (fun vs h => len4 (P := fun vs => bindArgs _ ⟨vs, []⟩ = pure (([S "text", S "sources", S "goals", S "flags"]).zip vs)) (fun _ _ _ _ => rfl) vs h) (by decide +kernel) (show ([S "text", S "sign", S "rows", S "found", S "latest", S "code"] : List Str).all (fun x => decide ((scf 664).names.lookup x = some .local) && !(x == ("__debug__" : Str))) = true from by decide +kernel) (show ([S "text", S "sign", S "rows", S "found", S "latest", S "code"] : List Str).Nodup from by decide +kernel) (by decide +kernel) (by decide +kernel) (by rfl) (by rfl) (by rfl) (by intro _ _ h; revert h; exact InitL.mem (by repeat (first | exact InitL.nil | apply InitL.none | apply InitL.some | exact GetK.here | apply GetK.there)) _ _) (by intro _ _ h; revert h; exact InitL.mem (by repeat (first | exact InitL.nil | apply InitL.none | apply InitL.some | exact GetK.here | apply GetK.there)) _ _) ?_ (by decide)
  intro a ad O hr hh hcl Z
  have hc_sources := hcl (S "sources") (.head _)
  have hc_goals := hcl (S "goals") (.tail _ (.head _))
  have hc_flags := hcl (S "flags") (.tail _ (.tail _ (.head _)))
  have hc_once := hcl (S "once") (.tail _ (.tail _ (.tail _ (.head _))))
  have G := g664
  refine Ex_cells (l := [(ad (S "sources"), AO.cell (some (.ref sd))), (ad (S "goals"), AO.cell (some (.ref gd))), (ad (S "flags"), AO.cell (some (.str f))), (ad (S "once"), AO.cell none)]) (by k_allIn) ?_
  generalize hM : madeC (hasF f 99) c1 (keysL c1) goals (hasF f 100) = M
  replace hM := Eq.symm hM
  have hlow : ∀ c ∈ x.cps.toList, ∀ k, M c = some k → k = -2 ∨ (0 ≤ k ∧ k ≤ 1114111) := fun c hm k e => made_low h3 (hc c hm) (by rw [← hM]; exact e)
  have hkl : (keysL c1).length < 1000 := Nat.lt_of_le_of_lt (keysL_len c1) hz1
  let C0 : Led := [(ad (S "sources"), .cell (some (.ref sd))), (ad (S "goals"), .cell (some (.ref gd))), (ad (S "flags"), .cell (some (.str f))), (ad (S "once"), .cell none)]
  with_reducible refine Ex_cons O ?_
  refine Ex_AssignCell O (by decide +kernel) hc_once (by k_dflt rfl) ?_
  with_reducible
    apply Ev_callT; assumption; assumption; k_allIn; (k_dflt rfl)
    apply EvL_cons; (k_dflt rfl)
    apply Ev_callT; assumption; assumption; k_allIn; (k_dflt rfl)
    apply EvL_cons; (k_dflt rfl)
  refine Ev_ListComp ad [S "one"] O (by decide +kernel) (fun y hy => nomatch hy) (by intro _; rfl) ?_
  with_reducible
    apply Ev_cell; assumption; (decide +kernel); assumption; k_allIn
  refine CompA.mke (lst c1) [(sd, .list (lst c1))] _ ((gd, .list (lst goals)) :: C0) (fun i => (c1.take i).map (fun n => .tup [.int n, .bool true])) (by k_allIn) (by rw [List.length_map]; omega) (iter_list O hh) (by k_allIn) rfl ?_ ?_
  · intro cc i av O hcr hch hcl hav
    rw [List.getElem?_map] at hav
    obtain ⟨o, ho, rfl⟩ := Option.map_eq_some_iff.mp hav
    refine asn_name O .here (ct_nil (.t rfl ?_))
    with_reducible
      apply Ev_Tuple
      apply EvL_cons; (k_dflt rfl)
      apply Ev_loc; assumption; k_allIn
      apply EvL_cons; (k_dflt rfl)
      apply Ev_bool
      apply EvL_nil
      apply new_tuple; (k_dflt exact Nat.le_of_ble_eq_true rfl)
    exact Has.mk (led' := (gd, .list (lst goals)) :: C0) (by k_allIn) ⟨(map_snoc ho).symm, rfl⟩
  skip
  rw [List.length_map, List.take_length]
  with_reducible
    apply Appd.mk; k_allIn
  intro D
  with_reducible
    apply EvL_nil
  refine dict_pairs O hh (by k_allIn) (by omega) fun D2 => ?_
  with_reducible
    apply EvL_nil
  refine list_dI O hh (by k_allIn) (Nat.le_trans (dictL_len c1) (by omega)) fun od => ?_
  rw [dictL_keys]
  let L1 : Led := [(ad (S "sources"), .cell (some (.ref sd))), (ad (S "goals"), .cell (some (.ref gd))), (ad (S "flags"), .cell (some (.str f))), (ad (S "once"), .cell (some (.ref od))), (sd, .list (lst c1)), (gd, .list (lst goals)), (od, .list (lst (keysL c1)))]
  refine ⟨_, _, by k_allIn, by k_allIn, ?_⟩
  with_reducible
    apply Ex_cons; assumption
  refine Ex_AssignComp ad [S "sign"] O (by k_dflt rfl) (by decide +kernel) (fun y hy => hcl y (all_in (by decide +kernel) y hy)) (by intro _; rfl) ?_
  with_reducible
    apply Ev_loc; assumption; k_allIn
  have hsl : (signs x).length = x.cps.toList.length := List.length_map _
  refine CompA.mke (signs x) [] _ (L1) (fun i => (x.cps.toList.take i).map (rowA M)) .nil (by rw [hsl]; omega) (iter_str O hh) (by k_allIn) rfl ?_ ?_
  · intro cc i av O hcr hch hcl hav
    obtain ⟨c, hci, rfl⟩ : ∃ c, x.cps.toList[i]? = some c ∧ av = .str ⟨#[c]⟩ := by
      unfold signs at hav
      rw [List.getElem?_map] at hav
      obtain ⟨c, e, rfl⟩ := Option.map_eq_some_iff.mp hav
      exact ⟨c, e, rfl⟩
    have G := GOk.two cc (x := S "ord") (y := S "_law_made") (by decide +kernel) gl_ord (by decide +kernel) gl__law_made
    have hf1 := hcl (S "sources") (by decide +kernel)
    have hf2 := hcl (S "goals") (by decide +kernel)
    have hf3 := hcl (S "flags") (by decide +kernel)
    have hf4 := hcl (S "once") (by decide +kernel)
    have hh : cc.hd = true := hch.trans hh
    refine asn_name O .here (ct_nil (.t rfl ?_))
    with_reducible
      apply Ev_Tuple
      apply EvL_cons; (k_dflt rfl)
      apply Ev_loc; assumption; k_allIn
      apply EvL_cons; (k_dflt rfl)
    with_reducible refine Ev_call O G (by k_allIn) (fun w => by k_dflt kernel_rfl!) (by k_dflt rfl) ?_
    with_reducible
      apply EvL_cons; (k_dflt rfl)
      apply Ev_callB; assumption; assumption; k_allIn; (k_dflt rfl)
      apply EvL_cons; (k_dflt rfl)
      apply Ev_loc; assumption; k_allIn
      apply EvL_nil
      apply ord_s
      apply EvL_cons; (k_dflt rfl)
      apply Ev_cell; assumption; (decide +kernel); assumption; k_allIn
      apply EvL_cons; (k_dflt rfl)
      apply Ev_cell; assumption; (decide +kernel); assumption; k_allIn
      apply EvL_cons; (k_dflt rfl)
      apply Ev_cell; assumption; (decide +kernel); assumption; k_allIn
      apply EvL_cons; (k_dflt rfl)
      apply Ev_cell; assumption; (decide +kernel); assumption; k_allIn
      apply EvL_nil
    refine OpL_FSe (fs_law_made (c := (c : Int)) (f := f) hz1 hkl hz3 (fun k hk => (mem_keysL c1 k).mp hk) (fun _ => place_ok h1 c)) O hh (room_of (hcr.trans hr) rfl) (by decide) (by k_allIn) ?_
    rw [← hM]
    with_reducible
      apply Appd.mk; k_allIn
      apply EvL_nil
      apply new_tuple; (k_dflt exact Nat.le_of_ble_eq_true rfl)
    exact Has.mk (led' := L1) (by k_allIn) ⟨(map_snoc hci).symm, rfl⟩
  skip
  rw [hsl, List.take_length]
  with_reducible
    apply Appd.mk; k_allIn
  intro rd
  with_reducible
    apply Stored.mk; k_allIn
    apply Ex_cons; assumption
    apply Ex_AssignTup; (k_dflt rfl); (k_dflt rfl)
    apply Ev_Tuple
    apply EvL_cons; (k_dflt rfl)
    apply Ev_str
    apply EvL_cons; (k_dflt rfl)
    apply Ev_none
    apply EvL_nil
    apply new_tuple; (k_dflt exact Nat.le_of_ble_eq_true rfl)
    apply asn_2; assumption; (k_dflt assumption)
    apply Stored.mk; k_allIn
    apply Stored.mk; k_allIn
    apply Ex_cons; assumption
    apply Ex_For; assumption; (intro _; k_dflt rfl)
    apply Ev_loc; assumption; k_allIn
  have hrows : (x.cps.toList.map (rowA M)).length = x.cps.toList.length := List.length_map _
  generalize hsq : hasF f 115 = sq
  replace hsq := Eq.symm hsq
  let J : Nat → Loc → Led → Prop := fun i loc led => ∃ sg cg st, st = runW M sq (x.cps.toList.take i) ∧ loc = [(S "text", some (.str x)), (S "sign", sg), (S "rows", some (.ref rd)), (S "found", some (.str st.1)), (S "latest", some (optI st.2)), (S "code", cg)] ∧ led = L1
  refine ForA.mk (x.cps.toList.map (rowA M)) [(rd, .list (x.cps.toList.map (rowA M)))] _ J (.cons .here .nil) (iter_list O hh) (Has.mk (led' := L1) (by k_allIn) ⟨_, _, (S "", none), rfl, rfl, rfl⟩) ?_ ?_
  · rintro h i av loc led O _ hav ⟨sg, cg, st, hst, rfl, rfl⟩
    rw [List.getElem?_map] at hav
    obtain ⟨c, hci, rfl⟩ := Option.map_eq_some_iff.mp hav
    have hi := (List.getElem?_eq_some_iff.mp hci).1
    have hc_f : (a.loop h).cl.lookup (S "flags") = some (ad (S "flags")) := hc_flags
    have hmem := List.mem_of_getElem? hci
    have hsn := runW_snoc (m := M) (sq := sq) hci
    rw [← hst] at hsn
    have hlen : st.1.length < 1000 := by
      have := runW_len M sq (x.cps.toList.take i)
      rw [← hst, List.length_take] at this
      omega
    unfold stepW at hsn
    cases hmc : M c with
    | none =>
      rw [hmc, Option.elim_none] at hsn
      rw [show rowA M c = .tup [.str ⟨#[c]⟩, .none] from by unfold rowA; rw [hmc]]
      with_reducible
        apply asn_2; assumption; (k_dflt assumption)
        apply Stored.mk; k_allIn
        apply Stored.mk; k_allIn
        apply Ex_cons; assumption
        apply Ex_If
        apply EvB_Compare; (k_dflt rfl)
        apply Ev_loc; assumption; k_allIn
        apply Ev_none
        apply is_n
        apply truthy_b
        refine Two.t rfl ?_
        apply Ex_cons; assumption
        apply Ex_Swap2; assumption; (k_dflt assumption); (k_dflt rfl); (k_dflt rfl)
        apply Ev_Tuple
        apply EvL_cons; (k_dflt rfl)
        apply Ev_BinOp
        apply Ev_loc; assumption; k_allIn
        apply Ev_loc; assumption; k_allIn
      refine add_st hlen (show 1 < 1000 by decide) ?_
      with_reducible
        apply EvL_cons; (k_dflt rfl)
        apply Ev_none
        apply EvL_nil
        apply new_tuple; (k_dflt exact Nat.le_of_ble_eq_true rfl)
        apply sw2
        apply Stored.mk; k_allIn
        apply Stored.mk; k_allIn
        apply Ex_nil
        apply Ex_nil
      exact Has.mk (led' := L1) (by k_allIn) ⟨_, _, _, hsn.symm, rfl, rfl⟩
    | some k =>
      rw [hmc, Option.elim_some] at hsn
      rw [show rowA M c = .tup [.str ⟨#[c]⟩, .int k] from by unfold rowA; rw [hmc]]
      have hk := hlow c hmem k hmc
      have skip : (decide (0 ≤ k) && !(sq && st.2 == some k)) = false → runW M sq (x.cps.toList.take (i + 1)) = st := fun e => by rw [if_neg (by rw [e]; decide)] at hsn; exact hsn
      have take : (decide (0 ≤ k) && !(sq && st.2 == some k)) = true → runW M sq (x.cps.toList.take (i + 1)) = (st.1 ++ chrS k, some k) := fun e => by rw [if_pos e] at hsn; exact hsn
      with_reducible
        apply asn_2; assumption; (k_dflt assumption)
        apply Stored.mk; k_allIn
        apply Stored.mk; k_allIn
        apply Ex_cons; assumption
        apply Ex_If
        apply EvB_Compare; (k_dflt rfl)
        apply Ev_loc; assumption; k_allIn
        apply Ev_none
        apply is_n
        apply truthy_b
        refine Two.f rfl ?_
        apply Ex_cons; assumption
        apply Ex_If
        apply EvB_BoolOp
        apply all_cons
        apply EvB_Compare; (k_dflt rfl)
        apply Ev_loc; assumption; k_allIn
        apply Ev_int
        apply ge_ii
        apply truthy_b
      refine ⟨fun hb => ?_, fun hb => ?_⟩
      · have h0 : 0 ≤ k := by simpa using hb
        have hk2 : k ≤ 1114111 := by omega
        with_reducible
          apply all_cons
          apply EvB_Not
          apply EvB_BoolOp
          apply all_cons
          apply EvB_Compare; (k_dflt rfl)
          apply Ev_str
          apply Ev_cell; assumption; (decide +kernel); assumption; k_allIn
        refine in_S (c := 115) (by decide +kernel) ?_
        rw [← hsq]
        with_reducible
          apply truthy_b
        have more : (sq && st.2 == some k) = false → (decide (0 ≤ k) && !(sq && st.2 == some k)) = true := fun e => by rw [e, decide_eq_true h0]; rfl
        have put : (sq && st.2 == some k) = false → ∀ {led rest : Led} {sg' cg' : Option AV}, PickO led L1 rest → Has led (J (i + 1) [(S "text", some (.str x)), (S "sign", sg'), (S "rows", some (.ref rd)), (S "found", some (.str (st.1 ++ chrS k))), (S "latest", some (.int k)), (S "code", cg')]) := fun e => fun p => Has.mk p ⟨_, _, _, (take (more e)).symm, rfl, rfl⟩
        refine ⟨fun hb2 => ?_, fun hb2 => ?_⟩
        · with_reducible
            apply all_cons
            apply EvB_Compare; (k_dflt rfl)
            apply Ev_loc; assumption; k_allIn
            apply Ev_loc; assumption; k_allIn
          refine eq_io ?_
          with_reducible
            apply truthy_b
          refine ⟨fun hb3 => ?_, fun hb3 => ?_⟩
          · with_reducible
              apply all_nil
              refine Two.f rfl ?_
              refine Two.f rfl ?_
              apply Ex_nil
              apply Ex_nil
              apply Ex_nil
            exact Has.mk (led' := L1) (by k_allIn) ⟨_, _, st, (skip (by rw [hb2, hb3, Bool.and_self, Bool.not_true, Bool.and_false])).symm, rfl, rfl⟩
          · with_reducible
              refine Two.t rfl ?_
              apply all_nil
              refine Two.t rfl ?_
              apply Ex_cons; assumption
              apply Ex_Swap2; assumption; (k_dflt assumption); (k_dflt rfl); (k_dflt rfl)
              apply Ev_Tuple
              apply EvL_cons; (k_dflt rfl)
              apply Ev_BinOp
              apply Ev_loc; assumption; k_allIn
              apply Ev_callB; assumption; assumption; k_allIn; (k_dflt rfl)
              apply EvL_cons; (k_dflt rfl)
              apply Ev_loc; assumption; k_allIn
              apply EvL_nil
            refine chr_i h0 hk2 ?_
            refine add_st hlen (show 1 < 1000 by decide) ?_
            with_reducible
              apply EvL_cons; (k_dflt rfl)
              apply Ev_loc; assumption; k_allIn
              apply EvL_nil
              apply new_tuple; (k_dflt exact Nat.le_of_ble_eq_true rfl)
              apply sw2
              apply Stored.mk; k_allIn
              apply Stored.mk; k_allIn
              apply Ex_nil
              apply Ex_nil
              apply Ex_nil
            exact put (by rw [hb3, Bool.and_false]) (by k_allIn)
        · with_reducible
            refine Two.t rfl ?_
            apply all_nil
            refine Two.t rfl ?_
            apply Ex_cons; assumption
            apply Ex_Swap2; assumption; (k_dflt assumption); (k_dflt rfl); (k_dflt rfl)
            apply Ev_Tuple
            apply EvL_cons; (k_dflt rfl)
            apply Ev_BinOp
            apply Ev_loc; assumption; k_allIn
            apply Ev_callB; assumption; assumption; k_allIn; (k_dflt rfl)
            apply EvL_cons; (k_dflt rfl)
            apply Ev_loc; assumption; k_allIn
            apply EvL_nil
          refine chr_i h0 hk2 ?_
          refine add_st hlen (show 1 < 1000 by decide) ?_
          with_reducible
            apply EvL_cons; (k_dflt rfl)
            apply Ev_loc; assumption; k_allIn
            apply EvL_nil
            apply new_tuple; (k_dflt exact Nat.le_of_ble_eq_true rfl)
            apply sw2
            apply Stored.mk; k_allIn
            apply Stored.mk; k_allIn
            apply Ex_nil
            apply Ex_nil
            apply Ex_nil
          exact put (by rw [hb2]; rfl) (by k_allIn)
      · have h0 : decide (0 ≤ k) = false := by simpa using hb
        with_reducible
          refine Two.f rfl ?_
          apply Ex_nil
          apply Ex_nil
          apply Ex_nil
        exact Has.mk (led' := L1) (by k_allIn) ⟨_, _, st, (skip (by rw [h0]; rfl)).symm, rfl, rfl⟩
  rintro loc led ⟨sg, cg, st, hst, rfl, rfl⟩
  rw [hrows, List.take_length] at hst
  rw [← hst]
  with_reducible
    apply Appd.mk; k_allIn
    apply Ex_cons; assumption
    apply Ex_Return
    apply Ev_Tuple
    apply EvL_cons; (k_dflt rfl)
    apply Ev_loc; assumption; k_allIn
    apply EvL_cons; (k_dflt rfl)
    apply Ev_callB; assumption; assumption; k_allIn; (k_dflt rfl)
    apply EvL_cons; (k_dflt rfl)
  refine Ev_ListComp ad [S "sign", S "code"] O (by decide +kernel) (fun y hy => nomatch hy) (by intro _; rfl) ?_
  with_reducible
    apply Ev_loc; assumption; k_allIn
  have cnt : ∀ {i c : Nat}, x.cps.toList[i]? = some c → cntW M (x.cps.toList.take (i + 1)) = cntW M (x.cps.toList.take i) + (if (M c).isSome then 1 else 0) := fun {i c} h => by
    unfold cntW
    rw [List.take_add_one, h, Option.toList_some, List.filter_append, List.length_append, List.filter_cons]
    split <;> rfl
  refine CompA.mke (x.cps.toList.map (rowA M)) [(rd, .list (x.cps.toList.map (rowA M)))] _ (L1) (fun i => List.replicate (cntW M (x.cps.toList.take i)) (.int 1)) (.cons .here .nil) (by rw [hrows]; omega) (iter_list O hh) (by k_allIn) rfl ?_ ?_
  · intro cc i av O hcr hch hcl hav
    rw [List.getElem?_map] at hav
    obtain ⟨c, hci, rfl⟩ := Option.map_eq_some_iff.mp hav
    have hh : cc.hd = true := hch.trans hh
    have hcn := cnt hci
    cases hmc : M c with
    | none =>
      rw [show rowA M c = .tup [.str ⟨#[c]⟩, .none] from by unfold rowA; rw [hmc]]
      rw [hmc, if_neg (by decide), Nat.add_zero] at hcn
      refine asn_2 O hh (show Stored _ _ [(S "sign", none), (S "code", none)] _ from ?_)
      with_reducible
        apply Stored.mk; k_allIn
        apply Stored.mk; k_allIn
      refine ct_one ?_
      with_reducible
        apply EvB_Compare; (k_dflt rfl)
        apply Ev_loc; assumption; k_allIn
        apply Ev_none
        apply isnot_n
        apply truthy_b
        refine Two.f rfl ?_
      exact Has.mk (led' := L1) (by k_allIn) ⟨by rw [hcn]; rfl, rfl⟩
    | some k =>
      rw [show rowA M c = .tup [.str ⟨#[c]⟩, .int k] from by unfold rowA; rw [hmc]]
      rw [hmc, if_pos (by rfl)] at hcn
      refine asn_2 O hh (show Stored _ _ [(S "sign", none), (S "code", none)] _ from ?_)
      with_reducible
        apply Stored.mk; k_allIn
        apply Stored.mk; k_allIn
      refine ct_one ?_
      with_reducible
        apply EvB_Compare; (k_dflt rfl)
        apply Ev_loc; assumption; k_allIn
        apply Ev_none
        apply isnot_n
        apply truthy_b
        refine Two.t rfl ?_
        apply Ev_int
      exact Has.mk (led' := L1) (by k_allIn) ⟨by rw [hcn, List.replicate_succ'], rfl⟩
  skip
  rw [hrows, List.take_length]
  with_reducible
    apply Appd.mk; k_allIn
  intro D3
  have hcw : cntW M x.cps.toList ≤ 16 := Nat.le_trans (List.length_filter_le _ _) hx
  with_reducible
    apply EvL_nil
  refine len_list (by k_allIn) (by rw [List.length_replicate]; omega) ?_
  rw [List.length_replicate]
  with_reducible
    apply EvL_nil
    apply new_tuple; (k_dflt exact Nat.le_of_ble_eq_true rfl)
  exact Has.mk (led' := [(sd, .list (lst c1)), (gd, .list (lst goals))]) (by k_allIn) ⟨rfl, rfl⟩


/-! ## the run and its limits -/
theorem fc_Run {x d hp ct lm : Addr} : FCX 611 2 (fun vs => ⟨vs, []⟩) [.ref x, .ref hp, .ref ct, .none, .ref lm] [(x, .inst 614 d), (d, .attrs [])] (fun v led => v = .none ∧ ∃ n1 n2 n3 n4 n5 n6 n7 n8 n9 n10, led = [(x, .inst 614 d), (d, rnA hp ct lm n1 n2 n3 n4 n5 n6 n7 n8 n9 n10), (n1, .dI []), (n2, .dI []), (n3, .dI []), (n4, .dI []), (n5, .dI []), (n6, .list []), (n7, .list []), (n8, .list []), (n9, .list []), (n10, .dI [])]) fun _ => False := by
  refine FCX.intro (scf 611) [S "self", S "heap", S "counter", S "stash", S "limits"] [] [.ref x, .ref hp, .ref ct, .none, .ref lm] [(S "self", some (.ref x)), (S "heap", some (.ref hp)), (S "counter", some (.ref ct)), (S "stash", some (.none)), (S "limits", some (.ref lm))] (fun P => by rfl) (fun P => by kernel_rfl!) (by rfl) rfl (fun {_ _ vs} _ hr => ⟨vs, hr, BindsTo.of_eq (len5 (P := fun vs => bindArgs _ ⟨vs, []⟩ = pure (([S "self", S "heap", S "counter", S "stash", S "limits"]).zip vs)) (fun _ _ _ _ _ => rfl) vs hr.length)⟩) (by decide +kernel) (by decide +kernel) (by rfl) (by rfl) (by rfl) (by decide +kernel) rfl ?_ (by decide)
  intro a O hr hh Z
  with_reducible
    apply Ex_cons; assumption
    apply Ex_AssignAttr; (k_dflt rfl)
    apply Ev_loc; assumption; k_allIn
    apply Ev_loc; assumption; k_allIn
    apply set_snoc; assumption; k_allIn; k_allIn; k_allIn; (first | exact cls117 | exact cls389 | exact cls579 | exact cls614 | exact cls636 | exact cls276); (k_dflt rfl); (k_dflt rfl); (k_dflt exact Nat.le_of_ble_eq_true rfl); k_allIn
    apply Ex_cons; assumption
    apply Ex_AssignAttr; (k_dflt rfl)
    apply Ev_loc; assumption; k_allIn
    apply Ev_loc; assumption; k_allIn
    apply set_snoc; assumption; k_allIn; k_allIn; k_allIn; (first | exact cls117 | exact cls389 | exact cls579 | exact cls614 | exact cls636 | exact cls276); (k_dflt rfl); (k_dflt rfl); (k_dflt exact Nat.le_of_ble_eq_true rfl); k_allIn
    apply Ex_cons; assumption
    apply Ex_AssignAttr; (k_dflt rfl)
    apply Ev_loc; assumption; k_allIn
    apply Ev_loc; assumption; k_allIn
    apply set_snoc; assumption; k_allIn; k_allIn; k_allIn; (first | exact cls117 | exact cls389 | exact cls579 | exact cls614 | exact cls636 | exact cls276); (k_dflt rfl); (k_dflt rfl); (k_dflt exact Nat.le_of_ble_eq_true rfl); k_allIn
    apply Ex_cons; assumption
    apply Ex_AssignAttr; (k_dflt rfl)
    apply Ev_loc; assumption; k_allIn
    apply Ev_loc; assumption; k_allIn
    apply set_snoc; assumption; k_allIn; k_allIn; k_allIn; (first | exact cls117 | exact cls389 | exact cls579 | exact cls614 | exact cls636 | exact cls276); (k_dflt rfl); (k_dflt rfl); (k_dflt exact Nat.le_of_ble_eq_true rfl); k_allIn
    apply Ex_cons; assumption
    apply Ex_AssignAttr; (k_dflt rfl)
    apply Ev_DictE; assumption; intro _
    apply Ev_loc; assumption; k_allIn
    apply set_snoc; assumption; k_allIn; k_allIn; k_allIn; (first | exact cls117 | exact cls389 | exact cls579 | exact cls614 | exact cls636 | exact cls276); (k_dflt rfl); (k_dflt rfl); (k_dflt exact Nat.le_of_ble_eq_true rfl); k_allIn
    apply Ex_cons; assumption
    apply Ex_AssignAttr; (k_dflt rfl)
    apply Ev_DictE; assumption; intro _
    apply Ev_loc; assumption; k_allIn
    apply set_snoc; assumption; k_allIn; k_allIn; k_allIn; (first | exact cls117 | exact cls389 | exact cls579 | exact cls614 | exact cls636 | exact cls276); (k_dflt rfl); (k_dflt rfl); (k_dflt exact Nat.le_of_ble_eq_true rfl); k_allIn
    apply Ex_cons; assumption
    apply Ex_AssignAttr; (k_dflt rfl)
    apply Ev_DictE; assumption; intro _
    apply Ev_loc; assumption; k_allIn
    apply set_snoc; assumption; k_allIn; k_allIn; k_allIn; (first | exact cls117 | exact cls389 | exact cls579 | exact cls614 | exact cls636 | exact cls276); (k_dflt rfl); (k_dflt rfl); (k_dflt exact Nat.le_of_ble_eq_true rfl); k_allIn
    apply Ex_cons; assumption
    apply Ex_AssignAttr; (k_dflt rfl)
    apply Ev_DictE; assumption; intro _
    apply Ev_loc; assumption; k_allIn
    apply set_snoc; assumption; k_allIn; k_allIn; k_allIn; (first | exact cls117 | exact cls389 | exact cls579 | exact cls614 | exact cls636 | exact cls276); (k_dflt rfl); (k_dflt rfl); (k_dflt exact Nat.le_of_ble_eq_true rfl); k_allIn
    apply Ex_cons; assumption
    apply Ex_AssignAttr; (k_dflt rfl)
    apply Ev_DictE; assumption; intro _
    apply Ev_loc; assumption; k_allIn
    apply set_snoc; assumption; k_allIn; k_allIn; k_allIn; (first | exact cls117 | exact cls389 | exact cls579 | exact cls614 | exact cls636 | exact cls276); (k_dflt rfl); (k_dflt rfl); (k_dflt exact Nat.le_of_ble_eq_true rfl); k_allIn
    apply Ex_cons; assumption
    apply Ex_AssignAttr; (k_dflt rfl)
    apply Ev_List
    apply EvL_nil
    apply new_list; assumption; (k_dflt exact Nat.le_of_ble_eq_true rfl); intro _
    apply Ev_loc; assumption; k_allIn
    apply set_snoc; assumption; k_allIn; k_allIn; k_allIn; (first | exact cls117 | exact cls389 | exact cls579 | exact cls614 | exact cls636 | exact cls276); (k_dflt rfl); (k_dflt rfl); (k_dflt exact Nat.le_of_ble_eq_true rfl); k_allIn
    apply Ex_cons; assumption
    apply Ex_AssignAttr; (k_dflt rfl)
    apply Ev_List
    apply EvL_nil
    apply new_list; assumption; (k_dflt exact Nat.le_of_ble_eq_true rfl); intro _
    apply Ev_loc; assumption; k_allIn
    apply set_snoc; assumption; k_allIn; k_allIn; k_allIn; (first | exact cls117 | exact cls389 | exact cls579 | exact cls614 | exact cls636 | exact cls276); (k_dflt rfl); (k_dflt rfl); (k_dflt exact Nat.le_of_ble_eq_true rfl); k_allIn
    apply Ex_cons; assumption
    apply Ex_AssignAttr; (k_dflt rfl)
    apply Ev_List
    apply EvL_nil
    apply new_list; assumption; (k_dflt exact Nat.le_of_ble_eq_true rfl); intro _
    apply Ev_loc; assumption; k_allIn
    apply set_snoc; assumption; k_allIn; k_allIn; k_allIn; (first | exact cls117 | exact cls389 | exact cls579 | exact cls614 | exact cls636 | exact cls276); (k_dflt rfl); (k_dflt rfl); (k_dflt exact Nat.le_of_ble_eq_true rfl); k_allIn
    apply Ex_cons; assumption
    apply Ex_AssignAttr; (k_dflt rfl)
    apply Ev_List
    apply EvL_nil
    apply new_list; assumption; (k_dflt exact Nat.le_of_ble_eq_true rfl); intro _
    apply Ev_loc; assumption; k_allIn
    apply set_snoc; assumption; k_allIn; k_allIn; k_allIn; (first | exact cls117 | exact cls389 | exact cls579 | exact cls614 | exact cls636 | exact cls276); (k_dflt rfl); (k_dflt rfl); (k_dflt exact Nat.le_of_ble_eq_true rfl); k_allIn
    apply Ex_cons; assumption
    apply Ex_AssignAttr; (k_dflt rfl)
    apply Ev_none
    apply Ev_loc; assumption; k_allIn
    apply set_snoc; assumption; k_allIn; k_allIn; k_allIn; (first | exact cls117 | exact cls389 | exact cls579 | exact cls614 | exact cls636 | exact cls276); (k_dflt rfl); (k_dflt rfl); (k_dflt exact Nat.le_of_ble_eq_true rfl); k_allIn
    apply Ex_cons; assumption
    apply Ex_AssignAttr; (k_dflt rfl)
    apply Ev_DictE; assumption; intro _
    apply Ev_loc; assumption; k_allIn
    apply set_snoc; assumption; k_allIn; k_allIn; k_allIn; (first | exact cls117 | exact cls389 | exact cls579 | exact cls614 | exact cls636 | exact cls276); (k_dflt rfl); (k_dflt rfl); (k_dflt exact Nat.le_of_ble_eq_true rfl); k_allIn
    apply Ex_cons; assumption
    apply Ex_AssignAttr; (k_dflt rfl)
    apply Ev_int
    apply Ev_loc; assumption; k_allIn
    apply set_snoc; assumption; k_allIn; k_allIn; k_allIn; (first | exact cls117 | exact cls389 | exact cls579 | exact cls614 | exact cls636 | exact cls276); (k_dflt rfl); (k_dflt rfl); (k_dflt exact Nat.le_of_ble_eq_true rfl); k_allIn
    apply Ex_cons; assumption
    apply Ex_AssignAttr; (k_dflt rfl)
    apply Ev_none
    apply Ev_loc; assumption; k_allIn
    apply set_snoc; assumption; k_allIn; k_allIn; k_allIn; (first | exact cls117 | exact cls389 | exact cls579 | exact cls614 | exact cls636 | exact cls276); (k_dflt rfl); (k_dflt rfl); (k_dflt exact Nat.le_of_ble_eq_true rfl); k_allIn
    apply Ex_cons; assumption
    apply Ex_AssignAttr; (k_dflt rfl)
    apply Ev_none
    apply Ev_loc; assumption; k_allIn
    apply set_snoc; assumption; k_allIn; k_allIn; k_allIn; (first | exact cls117 | exact cls389 | exact cls579 | exact cls614 | exact cls636 | exact cls276); (k_dflt rfl); (k_dflt rfl); (k_dflt exact Nat.le_of_ble_eq_true rfl); k_allIn
    apply Ex_cons; assumption
    apply Ex_AssignAttr; (k_dflt rfl)
    apply Ev_none
    apply Ev_loc; assumption; k_allIn
    apply set_snoc; assumption; k_allIn; k_allIn; k_allIn; (first | exact cls117 | exact cls389 | exact cls579 | exact cls614 | exact cls636 | exact cls276); (k_dflt rfl); (k_dflt rfl); (k_dflt exact Nat.le_of_ble_eq_true rfl); k_allIn
    apply Ex_nil
  exact Has.mk (by k_allIn) ⟨rfl, _, _, _, _, _, _, _, _, _, _, rfl⟩
noncomputable abbrev limL (x d : Addr) (M : Int) : Led := [(x, .inst 636 d), (d, lmA M)]
theorem fc_Limits0 {x d : Addr} : FCX 633 2 (fun vs => ⟨vs, []⟩) [.ref x] [(x, .inst 636 d), (d, .attrs [])] (fun v led => v = .none ∧ led = limL x d 10000) fun _ => False := by
  refine FCX.intro (b := true) (f := 633) (n := 1) (mk := fun vs => ⟨vs, []⟩) (args := [.ref x]) (scf 633) [S "self", S "width", S "depth", S "steps", S "text", S "items"] [] [.ref x, .int 64, .int 50, .int 1000000, .int 100000, .int 10000] [(S "self", some (.ref x)), (S "width", some (.int 64)), (S "depth", some (.int 50)), (S "steps", some (.int 1000000)), (S "text", some (.int 100000)), (S "items", some (.int 10000))] (fun P => by rfl) (fun P => by kernel_rfl!) (by rfl) rfl (fun {w s vs} X hr => ?_) (by decide +kernel) (by decide +kernel) (by rfl) (by rfl) (by rfl) (by decide +kernel) rfl ?_ (by decide)
  · obtain ⟨v, rfl, rfl⟩ := hr.one
    refine ⟨[.ref x, .int 64 _, .int 50 _, .int 1000000 _, .int 100000 _, .int 10000 _], .cons rfl (.cons ⟨_, rfl⟩ (.cons ⟨_, rfl⟩ (.cons ⟨_, rfl⟩ (.cons ⟨_, rfl⟩ (.cons ⟨_, rfl⟩ .nil))))), BindsTo.of_defaults rfl (X 626 _ (by rfl)) rfl rfl rfl⟩
  intro a O hr hh Z
  with_reducible
    apply Ex_cons; assumption
    apply Ex_AssignAttr; (k_dflt rfl)
    apply Ev_loc; assumption; k_allIn
    apply Ev_loc; assumption; k_allIn
    apply set_snoc; assumption; k_allIn; k_allIn; k_allIn; (first | exact cls117 | exact cls389 | exact cls579 | exact cls614 | exact cls636 | exact cls276); (k_dflt rfl); (k_dflt rfl); (k_dflt exact Nat.le_of_ble_eq_true rfl); k_allIn
    apply Ex_cons; assumption
    apply Ex_AssignAttr; (k_dflt rfl)
    apply Ev_loc; assumption; k_allIn
    apply Ev_loc; assumption; k_allIn
    apply set_snoc; assumption; k_allIn; k_allIn; k_allIn; (first | exact cls117 | exact cls389 | exact cls579 | exact cls614 | exact cls636 | exact cls276); (k_dflt rfl); (k_dflt rfl); (k_dflt exact Nat.le_of_ble_eq_true rfl); k_allIn
    apply Ex_cons; assumption
    apply Ex_AssignAttr; (k_dflt rfl)
    apply Ev_loc; assumption; k_allIn
    apply Ev_loc; assumption; k_allIn
    apply set_snoc; assumption; k_allIn; k_allIn; k_allIn; (first | exact cls117 | exact cls389 | exact cls579 | exact cls614 | exact cls636 | exact cls276); (k_dflt rfl); (k_dflt rfl); (k_dflt exact Nat.le_of_ble_eq_true rfl); k_allIn
    apply Ex_cons; assumption
    apply Ex_AssignAttr; (k_dflt rfl)
    apply Ev_loc; assumption; k_allIn
    apply Ev_loc; assumption; k_allIn
    apply set_snoc; assumption; k_allIn; k_allIn; k_allIn; (first | exact cls117 | exact cls389 | exact cls579 | exact cls614 | exact cls636 | exact cls276); (k_dflt rfl); (k_dflt rfl); (k_dflt exact Nat.le_of_ble_eq_true rfl); k_allIn
    apply Ex_cons; assumption
    apply Ex_AssignAttr; (k_dflt rfl)
    apply Ev_loc; assumption; k_allIn
    apply Ev_loc; assumption; k_allIn
    apply set_snoc; assumption; k_allIn; k_allIn; k_allIn; (first | exact cls117 | exact cls389 | exact cls579 | exact cls614 | exact cls636 | exact cls276); (k_dflt rfl); (k_dflt rfl); (k_dflt exact Nat.le_of_ble_eq_true rfl); k_allIn
    apply Ex_nil
  exact Has.mk (by k_allIn) ⟨rfl, rfl⟩
theorem fc_LimitsK {x d : Addr} {M : Int} : FCX 633 2 (fun vs => ⟨vs.take 1, [(S "items", (vs.drop 1).headD .none)]⟩) [.ref x, .int M] [(x, .inst 636 d), (d, .attrs [])] (fun v led => v = .none ∧ led = limL x d M) fun _ => False := by
  refine FCX.intro (b := true) (f := 633) (n := 1) (mk := fun vs => ⟨vs.take 1, [(S "items", (vs.drop 1).headD .none)]⟩) (args := [.ref x, .int M]) (scf 633) [S "self", S "width", S "depth", S "steps", S "text", S "items"] [] [.ref x, .int 64, .int 50, .int 1000000, .int 100000, .int M] [(S "self", some (.ref x)), (S "width", some (.int 64)), (S "depth", some (.int 50)), (S "steps", some (.int 1000000)), (S "text", some (.int 100000)), (S "items", some (.int M))] (fun P => by rfl) (fun P => by kernel_rfl!) (by rfl) rfl (fun {w s vs} X hr => ?_) (by decide +kernel) (by decide +kernel) (by rfl) (by rfl) (by rfl) (by decide +kernel) rfl ?_ (by decide)
  · obtain ⟨v, u, rfl, rfl, ⟨tk, rfl⟩⟩ := hr.two
    refine ⟨[.ref x, .int 64 _, .int 50 _, .int 1000000 _, .int 100000 _, .int M tk], .cons rfl (.cons ⟨_, rfl⟩ (.cons ⟨_, rfl⟩ (.cons ⟨_, rfl⟩ (.cons ⟨_, rfl⟩ (.cons ⟨_, rfl⟩ .nil))))), BindsTo.of_defaults rfl (X 626 _ (by rfl)) rfl rfl rfl⟩
  intro a O hr hh Z
  with_reducible
    apply Ex_cons; assumption
    apply Ex_AssignAttr; (k_dflt rfl)
    apply Ev_loc; assumption; k_allIn
    apply Ev_loc; assumption; k_allIn
    apply set_snoc; assumption; k_allIn; k_allIn; k_allIn; (first | exact cls117 | exact cls389 | exact cls579 | exact cls614 | exact cls636 | exact cls276); (k_dflt rfl); (k_dflt rfl); (k_dflt exact Nat.le_of_ble_eq_true rfl); k_allIn
    apply Ex_cons; assumption
    apply Ex_AssignAttr; (k_dflt rfl)
    apply Ev_loc; assumption; k_allIn
    apply Ev_loc; assumption; k_allIn
    apply set_snoc; assumption; k_allIn; k_allIn; k_allIn; (first | exact cls117 | exact cls389 | exact cls579 | exact cls614 | exact cls636 | exact cls276); (k_dflt rfl); (k_dflt rfl); (k_dflt exact Nat.le_of_ble_eq_true rfl); k_allIn
    apply Ex_cons; assumption
    apply Ex_AssignAttr; (k_dflt rfl)
    apply Ev_loc; assumption; k_allIn
    apply Ev_loc; assumption; k_allIn
    apply set_snoc; assumption; k_allIn; k_allIn; k_allIn; (first | exact cls117 | exact cls389 | exact cls579 | exact cls614 | exact cls636 | exact cls276); (k_dflt rfl); (k_dflt rfl); (k_dflt exact Nat.le_of_ble_eq_true rfl); k_allIn
    apply Ex_cons; assumption
    apply Ex_AssignAttr; (k_dflt rfl)
    apply Ev_loc; assumption; k_allIn
    apply Ev_loc; assumption; k_allIn
    apply set_snoc; assumption; k_allIn; k_allIn; k_allIn; (first | exact cls117 | exact cls389 | exact cls579 | exact cls614 | exact cls636 | exact cls276); (k_dflt rfl); (k_dflt rfl); (k_dflt exact Nat.le_of_ble_eq_true rfl); k_allIn
    apply Ex_cons; assumption
    apply Ex_AssignAttr; (k_dflt rfl)
    apply Ev_loc; assumption; k_allIn
    apply Ev_loc; assumption; k_allIn
    apply set_snoc; assumption; k_allIn; k_allIn; k_allIn; (first | exact cls117 | exact cls389 | exact cls579 | exact cls614 | exact cls636 | exact cls276); (k_dflt rfl); (k_dflt rfl); (k_dflt exact Nat.le_of_ble_eq_true rfl); k_allIn
    apply Ex_nil
  exact Has.mk (by k_allIn) ⟨rfl, rfl⟩


/-! ## the plain law -/
noncomputable def BisOk (xs : List Int) (c : Int) (b : Nat) : Prop := b ≤ xs.length ∧ (∀ i, i < b → xs.getD i 0 < c) ∧ ∀ i, b ≤ i → i < xs.length → c ≤ xs.getD i 0
theorem getD_mono {xs : List Int} (hs : xs.Pairwise (· < ·)) {i j : Nat} (h : i ≤ j) (hj : j < xs.length) : xs.getD i 0 ≤ xs.getD j 0 := by
  have hi : i < xs.length := Nat.lt_of_le_of_lt h hj
  rw [List.getD_eq_getElem?_getD, List.getD_eq_getElem?_getD, List.getElem?_eq_getElem hi, List.getElem?_eq_getElem hj]
  rcases Nat.lt_or_eq_of_le h with h | h
  · exact Int.le_of_lt (List.pairwise_iff_getElem.mp hs i j hi hj h)
  · subst h; exact Int.le_refl _
theorem bis_ok {xs : List Int} (hs : xs.Pairwise (· < ·)) (c : Int) : ∀ f lo hi, hi - lo ≤ f → lo ≤ hi → hi ≤ xs.length → (∀ i, i < lo → xs.getD i 0 < c) → (∀ i, hi ≤ i → i < xs.length → c ≤ xs.getD i 0) → BisOk xs c (bis xs c f lo hi) := by
  intro f
  induction f with
  | zero =>
    intro lo hi h1 h2 h3 h4 h5
    have e : lo = hi := Nat.le_antisymm h2 (Nat.le_of_sub_eq_zero (Nat.le_zero.mp h1))
    subst e
    exact ⟨h3, h4, h5⟩
  | succ f ih =>
    intro lo hi h1 h2 h3 h4 h5
    unfold bis
    by_cases hlt : lo < hi
    · rw [if_pos hlt]
      have hmx := mid_lt hlt h3
      have hu := mid_up hlt h1
      have hd := mid_dn hlt h1
      by_cases hx : xs.getD ((lo + hi) / 2) 0 < c
      · rw [if_pos hx]
        exact ih _ _ hu.2.2 hu.2.1 h3 (fun i hi' => Int.lt_of_le_of_lt (getD_mono hs (j := (lo + hi) / 2) (Nat.le_of_lt_succ hi') hmx) hx) h5
      · rw [if_neg hx]
        exact ih _ _ hd.2.2 hd.2.1 (Nat.le_of_lt hmx) h4 fun i hi' hl => Int.le_trans (Int.not_lt.mp hx) (getD_mono hs hi' hl)
    · rw [if_neg hlt]
      have e : lo = hi := Nat.le_antisymm h2 (Nat.not_lt.mp hlt)
      subst e
      exact ⟨h3, h4, h5⟩
theorem filt_take : ∀ {xs : List Int} {c : Int} {b : Nat}, BisOk xs c b → (xs.filter fun o => decide (o < c)).length = b
  | [], c, b, ⟨h, _, _⟩ => by rw [List.length_nil] at h; rw [Nat.le_zero.mp h]; rfl
  | x :: xs, c, 0, ⟨_, _, h⟩ => by
    rw [List.filter_eq_nil_iff.mpr]
    · rfl
    · intro o ho
      obtain ⟨i, hi, e⟩ := List.mem_iff_getElem.mp ho
      have := h i (Nat.zero_le _) hi
      rw [List.getD_eq_getElem?_getD, List.getElem?_eq_getElem hi] at this
      have e2 : c ≤ o := by rw [← e]; exact this
      rw [decide_eq_false (Int.not_lt.mpr e2)]; exact Bool.noConfusion
  | x :: xs, c, b + 1, ⟨h0, h1, h2⟩ => by
    have hx : x < c := h1 0 (Nat.zero_lt_succ _)
    rw [List.filter_cons_of_pos (by rw [decide_eq_true hx]), List.length_cons, filt_take (xs := xs) (c := c) (b := b) ⟨Nat.le_of_succ_le_succ h0, fun i hi => h1 (i + 1) (Nat.succ_lt_succ hi), fun i hi hl => h2 (i + 1) (Nat.succ_le_succ hi) (Nat.succ_lt_succ hl)⟩]
theorem rank_is {xs : List Int} (hs : xs.Pairwise (· < ·)) (c : Int) : rankOut xs c = if c ∈ xs then -1 else c - ((xs.filter fun o => decide (o < c)).length : Nat) := by
  have B := bis_ok hs c xs.length 0 xs.length (by omega) (Nat.zero_le _) (Nat.le_refl _) (fun i h => absurd h (Nat.not_lt_zero i)) (fun i h h' => absurd h (Nat.not_le.mpr h'))
  have hl := filt_take B
  unfold rankOut
  dsimp only
  obtain ⟨b, hb⟩ : ∃ b, b = bis xs c xs.length 0 xs.length := ⟨_, rfl⟩
  rw [← hb] at B hl ⊢
  rw [hl]
  obtain ⟨B0, B1, B2⟩ := B
  by_cases hm : c ∈ xs
  · rw [if_pos hm, if_pos]
    obtain ⟨i, hi, e⟩ := List.mem_iff_getElem.mp hm
    have ei : xs.getD i 0 = c := by rw [List.getD_eq_getElem?_getD, List.getElem?_eq_getElem hi]; exact e
    have hbi : b ≤ i := Nat.not_lt.mp fun h => by have := B1 i h; rw [ei] at this; exact Int.lt_irrefl _ this
    have hbl : b < xs.length := Nat.lt_of_le_of_lt hbi hi
    refine ⟨hbl, Int.le_antisymm ?_ (B2 b (Nat.le_refl _) hbl)⟩
    rw [← ei]
    exact getD_mono hs hbi hi
  · rw [if_neg hm, if_neg]
    rintro ⟨h1, h2⟩
    refine hm ?_
    rw [← h2, List.getD_eq_getElem?_getD, List.getElem?_eq_getElem h1]
    exact List.getElem_mem _
theorem len_sub : ∀ {l l' : List Int}, l.Nodup → (∀ k ∈ l, k ∈ l') → l.length ≤ l'.length
  | [], _, _, _ => Nat.zero_le _
  | k :: l, l', hn, h => by
    have hk := h k (.head _)
    have hn' := List.nodup_cons.mp hn
    have := len_sub (l := l) (l' := l'.erase k) hn'.2 fun j hj => (List.mem_erase_of_ne (fun e => hn'.1 (by rw [← e]; exact hj))).mpr (h j (.tail _ hj))
    rw [List.length_erase_of_mem hk] at this
    have := List.length_pos_of_mem hk
    rw [List.length_cons]; omega
theorem filt_len {l l' : List Int} (h : l.Nodup) (h' : l'.Nodup) (e : ∀ k, k ∈ l ↔ k ∈ l') (p : Int → Bool) : (l.filter p).length = (l'.filter p).length :=
  Nat.le_antisymm (len_sub (h.filter _) fun k hk => List.mem_filter.mpr ⟨(e k).mp (List.mem_filter.mp hk).1, (List.mem_filter.mp hk).2⟩) (len_sub (h'.filter _) fun k hk => List.mem_filter.mpr ⟨(e k).mpr (List.mem_filter.mp hk).1, (List.mem_filter.mp hk).2⟩)
/-! ### once each -/
theorem once_key : ∀ (x acc : List Int), x.Pairwise (· ≤ ·) → acc.Pairwise (· < ·) → (∀ a ∈ acc, ∀ b ∈ x, a ≤ b) → (x.foldl onceStep acc).Pairwise (· < ·) ∧ ∀ k, k ∈ x.foldl onceStep acc ↔ k ∈ acc ∨ k ∈ x
  | [], acc, _, h, _ => ⟨h, fun k => by simp⟩
  | c :: r, acc, hx, ha, hl => by
    have hx' := List.pairwise_cons.mp hx
    rw [List.foldl_cons]
    by_cases hb : (acc.isEmpty || acc.getLastD 0 != c) = true
    · have e : onceStep acc c = acc ++ [c] := if_pos hb
      have hlt : ∀ a ∈ acc, a < c := fun a h => by
        rcases Int.lt_or_eq_of_le (hl a h c (.head _)) with h' | h'
        · exact h'
        · exfalso
          subst h'
          have hne : acc ≠ [] := List.ne_nil_of_mem h
          have hg : acc.getLastD 0 = acc.getLast hne := by rw [List.getLastD_eq_getLast?, List.getLast?_eq_some_getLast hne]; rfl
          have hem : acc.isEmpty = false := by cases acc with | nil => exact absurd rfl hne | cons _ _ => rfl
          rw [hem, Bool.false_or, hg] at hb
          have h1 := hl _ (List.getLast_mem hne) a (.head _)
          have h2 : a ≤ acc.getLast hne := by
            have hs := List.dropLast_concat_getLast hne
            have hd : a ∈ acc.dropLast ++ [acc.getLast hne] := by rw [hs]; exact h
            rcases List.mem_append.mp hd with hd | hd
            · rw [← hs] at ha
              exact Int.le_of_lt ((List.pairwise_append.mp ha).2.2 a hd _ (List.mem_singleton.mpr rfl))
            · rw [List.mem_singleton.mp hd]; exact Int.le_refl _
          rw [Int.le_antisymm h1 h2] at hb
          simp at hb
      obtain ⟨k1, k2⟩ := once_key r (acc ++ [c]) hx'.2 (List.pairwise_append.mpr ⟨ha, List.pairwise_singleton _ _, fun a h b h' => by rw [List.mem_singleton.mp h']; exact hlt a h⟩) fun a h b h' => by
        rcases List.mem_append.mp h with h | h
        · exact hl a h b (.tail _ h')
        · rw [List.mem_singleton.mp h]; exact hx'.1 b h'
      rw [e]
      refine ⟨k1, fun k => ?_⟩
      rw [k2, List.mem_append, List.mem_singleton, List.mem_cons, or_assoc]
    · have e : onceStep acc c = acc := if_neg hb
      have hb' : acc.isEmpty = false ∧ acc.getLastD 0 = c := by
        have := Bool.eq_false_iff.mpr hb
        rw [Bool.or_eq_false_iff] at this
        exact ⟨this.1, by simpa using this.2⟩
      have hc : c ∈ acc := by
        have hne : acc ≠ [] := by rintro rfl; exact Bool.noConfusion hb'.1
        rw [← hb'.2, List.getLastD_eq_getLast?, List.getLast?_eq_some_getLast hne]
        exact List.getLast_mem hne
      obtain ⟨k1, k2⟩ := once_key r acc hx'.2 ha fun a h b h' => hl a h b (.tail _ h')
      rw [e]
      refine ⟨k1, fun k => ?_⟩
      rw [k2, List.mem_cons]
      constructor
      · rintro (h | h)
        · exact .inl h
        · exact .inr (.inr h)
      · rintro (h | rfl | h)
        · exact .inl h
        · exact .inl hc
        · exact .inr h
theorem once_ok {c1 ys : List Int} (hp : ys.Perm c1) (hs : ys.Pairwise (· ≤ ·)) : (onceL ys).Pairwise (· < ·) ∧ ∀ k, k ∈ onceL ys ↔ k ∈ c1 := by
  obtain ⟨h1, h2⟩ := once_key ys [] hs .nil (fun a h => nomatch h)
  exact ⟨h1, fun k => by rw [show onceL ys = ys.foldl onceStep [] from rfl, h2, hp.mem_iff]; simp⟩
/-! ### the plain table -/
theorem getD_take {c1 : List Int} {n : Nat} (h : n < c1.length) : c1.take (n + 1) = c1.take n ++ [c1.getD n 0] := by
  rw [List.take_add_one, List.getElem?_eq_getElem h, List.getD_eq_getElem?_getD, List.getElem?_eq_getElem h]; rfl
theorem look_app (kvs : List (Int × Int)) (c k c' : Int) : (kvs ++ [(c, k)]).lookup c' = (kvs.lookup c').or (if c' = c then some k else none) := by
  induction kvs with
  | nil =>
    rw [List.nil_append, List.lookup_cons]
    by_cases h : c' = c
    · rw [if_pos h, h, beq_self_eq_true]; rfl
    · rw [if_neg h, beq_eq_false_iff_ne.mpr h]; rfl
  | cons p r ih =>
    rw [List.cons_append, List.lookup_cons, List.lookup_cons]
    cases c' == p.1
    · exact ih
    · rfl
theorem plainT_look (c1 c2 : List Int) (del : Bool) (c : Int) : ∀ n, n ≤ c1.length → (plainT c1 c2 del n).lookup c = if c ∈ c1.take n then some (pickC c2 del c (c1.idxOf c : Nat)) else none
  | 0, _ => by rw [List.take_zero, if_neg List.not_mem_nil]; rfl
  | n + 1, hn => by
    have ih := fun c => plainT_look c1 c2 del c n (Nat.le_of_succ_le hn)
    have h1 := getD_take (c1 := c1) hn
    obtain ⟨d, hd⟩ : ∃ d, d = c1.getD n 0 := ⟨_, rfl⟩
    show (plainStep c1 c2 del (plainT c1 c2 del n) n).lookup c = _
    unfold plainStep
    dsimp only
    rw [h1, ← hd, ih d]
    by_cases hm : d ∈ c1.take n
    · rw [if_pos hm, Option.isSome_some, if_pos rfl, ih c]
      by_cases hc : c ∈ c1.take n
      · rw [if_pos hc, if_pos (List.mem_append_left _ hc)]
      · rw [if_neg hc, if_neg]
        intro h
        rcases List.mem_append.mp h with h | h
        · exact hc h
        · rw [List.mem_singleton.mp h] at hc; exact hc hm
    · rw [if_neg hm, Option.isSome_none, if_neg (by decide), look_app, ih c]
      by_cases hc : c ∈ c1.take n
      · rw [if_pos hc, if_pos (List.mem_append_left _ hc)]; rfl
      · rw [if_neg hc, Option.none_or]
        by_cases hcd : c = d
        · subst hcd
          rw [if_pos rfl, if_pos (List.mem_append_right _ (List.mem_singleton.mpr rfl))]
          have hi : c1.idxOf c = n := by
            have hsp : c1 = c1.take n ++ c :: c1.drop (n + 1) := by
              have := List.take_append_drop (n + 1) c1
              rw [h1, ← hd, List.append_assoc] at this
              exact this.symm
            rw [hsp, List.idxOf_append, if_neg hm, List.idxOf_cons_self, Nat.zero_add, List.length_take, Nat.min_eq_left (Nat.le_of_succ_le hn)]
          rw [hi]
          unfold pickC
          rw [Int.toNat_natCast]
          by_cases hl : n < c2.length
          · rw [if_pos hl, if_pos (Int.ofNat_lt.mpr hl)]
          · rw [if_neg hl, if_neg (fun q => hl (Int.ofNat_lt.mp q))]
        · rw [if_neg hcd, if_neg]
          intro h
          rcases List.mem_append.mp h with h | h
          · exact hc h
          · exact hcd (List.mem_singleton.mp h)
/-! ### one sign -/
theorem code_law {c1 c2 kvs barred} {del tn : Bool} (T : Tab c1 c2 del tn kvs barred) (h1 : Low c1) (c : Nat) : codeC tn kvs barred c2 del c = (madeC tn c1 (keysL c1) c2 del c).getD (-1) := by
  have hk : (keysL c1).contains (c : Int) = decide ((c : Int) ∈ c1) := by
    rw [Bool.eq_iff_iff, List.contains_iff_mem, mem_keysL, decide_eq_true_iff]
  rcases T with ⟨rfl, rfl, ys, hp, hs, rfl⟩ | ⟨rfl, rfl, rfl⟩
  · obtain ⟨o1, o2⟩ := once_ok hp hs
    have hf := filt_len (o1.imp fun h => Int.ne_of_lt h) (keysL_nodup c1) (fun k => (o2 k).trans (mem_keysL c1 k).symm) fun o => decide (o < (c : Int))
    have hr := rank_is o1 c
    have hpl := place_ok h1 c
    rw [hf] at hr
    unfold codeC madeC
    rw [if_pos rfl, if_pos rfl, hk]
    unfold turnedC
    dsimp only
    by_cases hc : (c : Int) ∈ c1
    · rw [if_pos ((o2 _).mpr hc)] at hr
      rw [hr, decide_eq_true hc, if_pos (by decide), if_pos rfl]; rfl
    · rw [if_neg (fun q => hc ((o2 _).mp q))] at hr
      rw [hr, decide_eq_false hc, if_neg (Int.not_lt.mpr hpl), if_neg (c := false = true) (by decide)]
      rfl
  · unfold codeC madeC plainC
    rw [if_neg (by decide), if_neg (by decide), hk, plainT_look c1 c2 del c c1.length (Nat.le_refl _), List.take_length]
    by_cases hc : (c : Int) ∈ c1
    · rw [if_pos hc, decide_eq_true hc, if_pos rfl]
    · rw [if_neg hc, decide_eq_false hc, if_neg (by decide)]
/-! ### a text -/
noncomputable def RunRel (r : RS) (w : TS) (n : Nat) : Prop := newS r = w.1 ∧ r.2.1 = (n : Int) ∧ r.2.2 = w.2.getD (-1) ∧ ∀ k, w.2 = some k → 0 ≤ k
theorem new_snoc (r : List Str) (y : Str) : Txt.join (S "") (r ++ [y]) = Txt.join (S "") r ++ y := by
  refine Str.ext' ?_
  rw [join_cps, cps_app, join_cps, List.map_append, List.flatten_append]
  simp
theorem step_law {F : Int → Int} {m : Int → Option Int} {sq : Bool} {c : Nat} (e : F c = (m c).getD (-1)) (hl : ∀ k, m c = some k → k = -2 ∨ 0 ≤ k) {r : RS} {w : TS} {n : Nat} (h : RunRel r w n) :
    RunRel (stepR F sq r c) (stepW m sq w c) (n + (if (m c).isSome then 1 else 0)) := by
  obtain ⟨h1, h2, h3, h4⟩ := h
  unfold stepR stepW
  dsimp only
  rw [e]
  cases hm : m c with
  | none =>
    rw [Option.getD_none, Option.elim_none, beq_self_eq_true, if_pos rfl, Option.isSome_none, if_neg (by decide), Nat.add_zero]
    exact ⟨(new_snoc _ _).trans (by rw [show Txt.join (S "") r.1 = w.1 from h1]), h2, rfl, fun k h => nomatch h⟩
  | some k =>
    rw [Option.getD_some, Option.elim_some, Option.isSome_some, if_pos rfl]
    have hk : k = -2 ∨ 0 ≤ k := hl k hm
    rw [if_neg (by rw [beq_iff_eq]; omega)]
    have h2' : r.2.1 + 1 = ((n + 1 : Nat) : Int) := by omega
    rcases hk with rfl | hk
    · rw [if_pos (by rfl), if_neg (by simp)]
      exact ⟨h1, h2', h3, h4⟩
    · have e2 : (k == -2) = false := beq_eq_false_iff_ne.mpr (by omega)
      have e3 : (k == r.2.2) = (w.2 == some k) := by
        rw [h3]
        cases hw : w.2 with
        | none => rw [Option.getD_none, beq_eq_false_iff_ne.mpr (show k ≠ -1 by omega)]; rfl
        | some j => rw [Option.getD_some, Bool.beq_comm]; rfl
      rw [e2, e3, decide_eq_true hk, Bool.false_or, Bool.true_and]
      cases hx : sq && w.2 == some k with
      | true => rw [if_pos rfl, if_neg (by decide)]; exact ⟨h1, h2', h3, h4⟩
      | false =>
        rw [if_neg (by decide), if_pos (by decide)]
        exact ⟨(new_snoc _ _).trans (by rw [show Txt.join (S "") r.1 = w.1 from h1]), h2', rfl, fun j hj => by cases hj; exact hk⟩
theorem plain_law {c1 c2 : List Int} {del tn sq : Bool} {kvs barred} {x : List Nat} (T : Tab c1 c2 del tn kvs barred) (h1 : Low c1) (h2 : Low c2) (hc : ∀ c ∈ x, c ≤ 1114111) :
    newS (runS (codeC tn kvs barred c2 del) sq x) = (runW (madeC tn c1 (keysL c1) c2 del) sq x).1 ∧ (runS (codeC tn kvs barred c2 del) sq x).2.1 = ((cntW (madeC tn c1 (keysL c1) c2 del) x : Nat) : Int) := by
  have key : ∀ (x : List Nat) (r : RS) (w : TS) (n : Nat), (∀ c ∈ x, c ≤ 1114111) → RunRel r w n → RunRel (x.foldl (stepR (codeC tn kvs barred c2 del) sq) r) (x.foldl (stepW (madeC tn c1 (keysL c1) c2 del) sq) w) (n + cntW (madeC tn c1 (keysL c1) c2 del) x) := by
    intro x
    induction x with
    | nil => intro r w n _ h; exact h
    | cons c x ih =>
      intro r w n hc h
      have := ih _ _ _ (fun k hk => hc k (.tail _ hk)) (step_law (sq := sq) (code_law T h1 c) (fun k e => (made_low h2 (hc c (.head _)) e).imp id And.left) h)
      have en : n + cntW (madeC tn c1 (keysL c1) c2 del) (c :: x) = n + (if (madeC tn c1 (keysL c1) c2 del c).isSome then 1 else 0) + cntW (madeC tn c1 (keysL c1) c2 del) x := by
        unfold cntW
        rw [List.filter_cons]
        by_cases q : (madeC tn c1 (keysL c1) c2 del (c : Int)).isSome = true
        · rw [if_pos q, if_pos q, List.length_cons]; omega
        · rw [if_neg q, if_neg q]; omega
      rw [List.foldl_cons, List.foldl_cons, en]
      exact this
  obtain ⟨a, b, _⟩ := key x ([], 0, -1) (S "", none) 0 hc ⟨rfl, rfl, rfl, fun k h => nomatch h⟩
  rw [Nat.zero_add] at b
  exact ⟨a, b⟩


theorem txt_of {val : AV} {txt : Str} (h : ScalOk val txt) : (FS 329 3 [val] [] fun v led => v = .str txt ∧ led = []) ∧ NoRef val := by
  rcases h with rfl | ⟨n, hn, rfl, rfl⟩ | ⟨rfl, rfl⟩
  · exact ⟨fs_to_text_s, noRef_s⟩
  · rw [num_text]; exact ⟨fs_to_text_i (Nat.lt_trans hn (by decide)), noRef_i⟩
  · exact ⟨fs_to_text_n, noRef_n⟩
section
variable {sc : Scope} {a : Act sc} {loc : Loc} {led : Led} {K : KV}
theorem eq_val {val : AV} {txt : Str} (h : ScalOk val txt) (k : K (.bool true) loc led) : Op2 a (compareOp .Eq) val val loc led K := by
  rcases h with rfl | ⟨n, hn, rfl, rfl⟩ | ⟨rfl, rfl⟩
  · exact eq_ss (by rw [beq_self_eq_true]; exact k)
  · exact eq_ii (by rw [beq_self_eq_true]; exact k)
  · exact eq_nn k
theorem eq_opt {p : Option Int} (k : K (.bool true) loc led) : Op2 a (compareOp .Eq) (optA p) (optA p) loc led K := by
  cases p with
  | none => exact eq_nn k
  | some i => exact eq_ii (by rw [beq_self_eq_true]; exact k)
end
section
variable {sc : Scope} {a : Act sc} {loc : Loc} {led : Led} {KS : KSt}
theorem Ex_imp {t : Sem Flow} {K' : KSt} (h : Ex a t loc led K') (m : ∀ af l d, K' af l d → KS af l d) : Ex a t loc led KS := fun s R => wpAny_mono (h s R) (fun _ _ p => p.imp (fun ⟨af, l, d, k, R, t, r⟩ => ⟨af, l, d, m af l d k, R, t, r⟩) id) fun _ _ e => e
theorem Ex_has {t : Sem Flow} {P : Led → Prop} (h : Has led P) (k : ∀ d, P d → Ex a t loc d KS) : Ex a t loc led KS := fun s R => let ⟨d', k', R'⟩ := R.has h; k d' k' s R'
noncomputable def cThen (a : Act sc) (s : Stmt) (K : KSt) : KSt := fun af l d => af = .next ∧ Ex a (exec s a.env) l d K
noncomputable def cHas (K : Loc → Led → Prop) : KSt := fun af l d => af = .next ∧ Has d (K l)
theorem Ex_cut3 {s1 s2 s3 : Stmt} {rest : List Stmt} (O : a.Ok) (K' : Loc → Led → Prop) (h : Ex a (exec s1 a.env) loc led (cThen a s2 (cThen a s3 (cHas K')))) (t : ∀ l d, K' l d → Ex a (execs rest a.env) l d KS) : Ex a (execs (s1 :: s2 :: s3 :: rest) a.env) loc led KS := by
  refine Ex_cons O (Ex_imp h ?_)
  rintro _ l d ⟨rfl, h⟩
  refine Ex_cons O (Ex_imp h ?_)
  rintro _ l d ⟨rfl, h⟩
  refine Ex_cons O (Ex_imp h ?_)
  rintro _ l d ⟨rfl, h⟩
  intro s R
  obtain ⟨d', k, R'⟩ := R.has h
  exact t l d' k s R'
end
theorem fc_Counter1 {x d hp : Addr} : FCX 501 2 (fun vs => ⟨vs, []⟩) [.ref x, .ref hp, .none] [(x, .inst 579 d), (d, .attrs [])] (fun v led => v = .none ∧ ∃ p e, led = [(x, .inst 579 d), (d, ctA hp p e), (p, .dI (plD none)), (e, .dI (plD none))]) fun _ => False := fc_Counter
theorem kp636 : ∀ w : World, keepIn (KF w.params) (.ref 636) = true := fun w => by kernel_rfl!
inductive C25 (st : Nat) (Q : Nat → Str → Str → List Int → List Int → Bool → Bool → AV → AV → Prop) : Prop
  | intro (st4 : Nat) (y z : Str) (c1 c2 : List Int) (b1 b2 : Bool) (sv gv : AV) (hs4 : st4 ≤ st + 190) (h1 : Lst y c1 b1) (h2 : Lst z c2 b2) (hl1 : Low c1) (hl2 : Low c2) (hn1 : c1.length < 100) (hn2 : c2.length < 100) (hq : Q st4 y z c1 c2 b1 b2 sv gv)
theorem g674 : GOk (scf 674) [(S "Heap", .ref 276), (S "Limits", .ref 636), (S "Counter", .ref 579), (S "_law_fall", .ref 647), (S "Run", .ref 614), (S "_law_scalar", .ref 669), (S "_law_list", .ref 654), (S "len", .builtin "len"), (S "trans_scalar", .ref 487), (S "Die", .ref 58), (S "pos_of", .ref 590), (S "_law_turned", .ref 664)] := .cons (by decide +kernel) gl_Heap (.cons (by decide +kernel) gl_Limits (.cons (by decide +kernel) gl_Counter (.cons (by decide +kernel) gl__law_fall (.cons (by decide +kernel) gl_Run (.cons (by decide +kernel) gl__law_scalar (.cons (by decide +kernel) gl__law_list (.cons (by decide +kernel) gl_len (.cons (by decide +kernel) gl_trans_scalar (.cons (by decide +kernel) gl_Die (.cons (by decide +kernel) gl_pos_of (.cons (by decide +kernel) gl__law_turned .nil)))))))))))
theorem fs_law_right {jar cl : Addr} {cells : List Int} {st : Nat} (hz : cells.length < 1000000) (hst : st < 2 ^ 27) :
    FSW 674 11 [.ref jar] (jarL jar cl cells st) fun v led => ∃ st', st' ≤ st + 200 ∧ v = .bool true ∧ led = jarL jar cl cells st' := by
  refine FSW.introC (scf 674) [S "jar"] [(S "heap", none), (S "counter", none), (S "most", none), (S "run", none), (S "scalar", none), (S "value", none), (S "text", none), (S "place", none), (S "flags", none), (S "source", none), (S "sources", none), (S "target", none), (S "goals", none), (S "is_let", none), (S "heard", none), (S "made", none), (S "count", none)] [(S "jar", some (.ref jar))] [S "jar"] rfl (fun P => by rfl) (fun P => by kernel_rfl!) (by rfl) rfl (by decide +kernel) (fun vs h => len1 (P := fun vs => bindArgs _ ⟨vs, []⟩ = pure (([S "jar"]).zip vs)) (fun _ => rfl) vs h) (by decide +kernel) (show ([S "heap", S "counter", S "most", S "run", S "scalar", S "value", S "text", S "place", S "flags", S "source", S "sources", S "target", S "goals", S "is_let", S "heard", S "made", S "count"] : List Str).all (fun x => decide ((scf 674).names.lookup x = some .local) && !(x == ("__debug__" : Str))) = true from by decide +kernel) (show ([S "heap", S "counter", S "most", S "run", S "scalar", S "value", S "text", S "place", S "flags", S "source", S "sources", S "target", S "goals", S "is_let", S "heard", S "made", S "count"] : List Str).Nodup from by decide +kernel) (by decide +kernel) (by decide +kernel) (by rfl) (by rfl) (by rfl) (by intro _ _ h; revert h; exact InitL.mem (by repeat (first | exact InitL.nil | apply InitL.none | apply InitL.some | exact GetK.here | apply GetK.there)) _ _) (by intro _ _ h; revert h; exact InitL.mem (by repeat (first | exact InitL.nil | apply InitL.none | apply InitL.some | exact GetK.here | apply GetK.there)) _ _) ?_ (by decide)
  intro a ad O hr hh hcl Z X
  have hc_jar := hcl (S "jar") (.head _)
  have G := g674
  refine Ex_cells (l := [(ad (S "jar"), AO.cell (some (.ref jar)))]) (by k_allIn) ?_
  with_reducible
    apply Ex_cons; assumption
    apply Ex_Assign; assumption; (k_dflt rfl)
  with_reducible refine Ev_call O G (by k_allIn) (fun w => by k_dflt kernel_rfl!) (by k_dflt rfl) ?_
  with_reducible
    apply EvL_cons; (k_dflt rfl)
  with_reducible refine Ev_call O G (by k_allIn) (fun w => by k_dflt kernel_rfl!) (by k_dflt rfl) ?_
  with_reducible
    apply EvL_nil
  refine make0 mk636 (fun x d => fc_Limits0) O hh (by rw [hr]; decide) (by decide) .nil ?_
  rintro l0 ld0 _ _ ⟨rfl, rfl⟩
  refine ⟨rfl, ?_⟩
  with_reducible
    apply Appd.mk; k_allIn
    apply EvL_nil
  refine make0 mk276 (fun x d => fc_Heap) O hh (by rw [hr]; decide) (by decide) .nil ?_
  rintro h hd _ _ ⟨rfl, z, rfl⟩
  refine ⟨rfl, ?_⟩
  with_reducible
    apply Appd.mk; k_allIn
    apply Stored.mk; k_allIn
    apply Ex_cons; assumption
    apply Ex_Swap2; assumption; (k_dflt assumption); (k_dflt rfl); (k_dflt rfl)
    apply Ev_Tuple
    apply EvL_cons; (k_dflt rfl)
  with_reducible refine Ev_call O G (by k_allIn) (fun w => by k_dflt kernel_rfl!) (by k_dflt rfl) ?_
  with_reducible
    apply EvL_cons; (k_dflt rfl)
    apply Ev_loc; assumption; k_allIn
    apply EvL_cons; (k_dflt rfl)
    apply Ev_none
    apply EvL_nil
  refine make0 mk579 (fun x d => fc_Counter1) O hh (by rw [hr]; decide) (by decide) .nil ?_
  rintro c cd _ _ ⟨rfl, p, e, rfl⟩
  refine ⟨rfl, ?_⟩
  with_reducible
    apply Appd.mk; k_allIn
    apply EvL_cons; (k_dflt rfl)
    apply Ev_BinOp
    apply Ev_int
  with_reducible refine Ev_call O G (by k_allIn) (fun w => by k_dflt kernel_rfl!) (by k_dflt rfl) ?_
  with_reducible
    apply EvL_cons; (k_dflt rfl)
    apply Ev_cell; assumption; (decide +kernel); assumption; k_allIn
    apply EvL_cons; (k_dflt rfl)
    apply Ev_int
    apply EvL_nil
  refine OpL_FSn (fs_fallN 30 (by decide) hz (Nat.lt_of_lt_of_le hst (by decide))) O hh (room_of hr rfl) (by decide) (by k_allIn) (fun q hq => ?_)
  with_reducible
    apply Appd.mk; k_allIn
    apply add_ii
    apply EvL_nil
    apply new_tuple; (k_dflt exact Nat.le_of_ble_eq_true rfl)
    apply sw2
    apply Stored.mk; k_allIn
    apply Stored.mk; k_allIn
    apply Ex_cons; assumption
    apply Ex_Assign; assumption; (k_dflt rfl)
  rw [show ((6 : Int) + (q : Int)) = ((6 + q : Nat) : Int) from rfl]
  generalize hM0 : 6 + q = M
  replace hM0 := Eq.symm hM0
  have hM : M < 64 := by omega
  with_reducible refine Ev_call O G (by k_allIn) (fun w => by k_dflt kernel_rfl!) (by k_dflt rfl) ?_
  with_reducible
    apply EvL_cons; (k_dflt rfl)
    apply Ev_loc; assumption; k_allIn
    apply EvL_cons; (k_dflt rfl)
    apply Ev_loc; assumption; k_allIn
    apply EvL_cons; (k_dflt rfl)
    apply Ev_none
    apply EvL_cons; (k_dflt rfl)
  refine Ev_callK O G (by k_allIn) kp636 ?_
  with_reducible
    apply Ev_loc; assumption; k_allIn
  refine make_inst (mk := fun vs => ⟨[], [(S "items", vs.headD .none)]⟩) (mk' := fun vs => ⟨vs.take 1, [(S "items", (vs.drop 1).headD .none)]⟩) mk636 (fun _ _ => by rfl) (fun x d => fc_LimitsK) O hh (by rw [hr]; decide) (by decide) .nil ?_
  rintro lm ld _ _ ⟨rfl, rfl⟩
  refine ⟨rfl, ?_⟩
  with_reducible
    apply Appd.mk; k_allIn
    apply EvL_nil
  refine make0 mk614 (fun x d => fc_Run) O hh (by rw [hr]; decide) (by decide) .nil ?_
  rintro rn rd _ _ ⟨rfl, n1, n2, n3, n4, n5, n6, n7, n8, n9, n10, rfl⟩
  refine ⟨rfl, ?_⟩
  with_reducible
    apply Appd.mk; k_allIn
    apply Stored.mk; k_allIn
    apply Ex_cons; assumption
    apply Ex_AssignTup; (k_dflt rfl); (k_dflt rfl)
  with_reducible refine Ev_call O G (by k_allIn) (fun w => by k_dflt kernel_rfl!) (by k_dflt rfl) ?_
  with_reducible
    apply EvL_cons; (k_dflt rfl)
    apply Ev_cell; assumption; (decide +kernel); assumption; k_allIn
    apply EvL_cons; (k_dflt rfl)
    apply Ev_loc; assumption; k_allIn
    apply EvL_cons; (k_dflt rfl)
    apply Ev_loc; assumption; k_allIn
    apply EvL_nil
  refine OpL_FS (fs_law_scalar (jar := jar) (cl := cl) (cells := cells) (st := st + 1) hz (Nat.lt_of_lt_of_le (Nat.add_lt_add_right hst 1) (by decide))) O hh (room_of hr rfl) (by decide) (by k_allIn) ?_
  rintro _ _ ⟨st1, x, d, wk, val, txt, pl, hs1, hsc, htl, htc, rfl, rfl⟩
  with_reducible
    apply Appd.mk; k_allIn
    apply asn_4; assumption; (k_dflt assumption)
    apply Stored.mk; k_allIn
    apply Stored.mk; k_allIn
    apply Stored.mk; k_allIn
    apply Stored.mk; k_allIn
    apply Ex_cons; assumption
    apply Ex_Assign; assumption; (k_dflt rfl)
  let L1 : Nat → Led := fun st' => [(ad (S "jar"), .cell (some (.ref jar))), (jar, .dS [(S "cells", .ref cl), (S "step", .int (st' : Nat))]), (cl, .list (lst cells)), (lm, .inst 636 ld), (ld, lmA (M : Nat)), (rn, .inst 614 rd), (rd, rnA h c lm n1 n2 n3 n4 n5 n6 n7 n8 n9 n10), (c, .inst 579 cd), (cd, ctA h p e), (p, .dI (plD pl)), (e, .dI (plD none)), (x, .inst 117 d), (d, scA 1 wk val)]
  with_reducible refine Ev_meth (by with_unfolding_all rfl) (by k_dflt rfl) ?_
  with_reducible
    apply Ev_str
    apply MethA.mk; apply m_join
    apply EvL_cons; (k_dflt rfl)
  refine Ev_ListComp ad [S "flag"] O (by decide +kernel) (fun y hy => by cases List.mem_singleton.mp hy; exact hc_jar) (by intro _; rfl) ?_
  with_reducible
    apply Ev_str
  have hb0 : ∀ i k, i ≤ 4 → k ≤ st1 + i → k < 2 ^ 29 := fun i k h1 h2 => by omega
  refine CompA.mk (signs (S "cdsr")) [] _ (fun i acc led => ∃ cs st', acc = (oneS cs).map .str ∧ cs.length ≤ i ∧ st' ≤ st1 + i ∧ led = L1 st') .nil (by decide +kernel) (iter_str O hh) (Has.mk (led' := L1 st1) (by k_allIn) ⟨[], _, rfl, Nat.le_refl _, Nat.le_refl _, rfl⟩) ?_ ?_
  · rintro cc i av acc led O hcr hch hcl hav ⟨cs, st', rfl, hcs, hs', rfl⟩
    have G := GOk.one cc (x := S "_law_fall") (by decide +kernel) gl__law_fall
    have hf := hcl (S "jar") (.head _)
    have hh : cc.hd = true := hch.trans hh
    obtain ⟨k, hki, rfl⟩ : ∃ k, (S "cdsr").cps.toList[i]? = some k ∧ av = .str ⟨#[k]⟩ := by
      unfold signs at hav
      rw [List.getElem?_map] at hav
      obtain ⟨k, e, rfl⟩ := Option.map_eq_some_iff.mp hav
      exact ⟨k, e, rfl⟩
    have hi : i < 4 := (List.getElem?_eq_some_iff.mp hki).1
    refine asn_name O .here (ct_one ?_)
    with_reducible
      apply EvB_Compare; (k_dflt rfl)
    with_reducible refine Ev_call O G (by k_allIn) (fun w => by k_dflt kernel_rfl!) (by k_dflt rfl) ?_
    with_reducible
      apply EvL_cons; (k_dflt rfl)
      apply Ev_cell; assumption; (decide +kernel); assumption; k_allIn
      apply EvL_cons; (k_dflt rfl)
      apply Ev_int
      apply EvL_nil
    refine OpL_FSn (fs_fallN 3 (by decide) hz (hb0 i st' (Nat.le_of_lt hi) hs')) O hh (room_of (hcr.trans hr) rfl) (by decide) (by k_allIn) (fun n hn => ?_)
    with_reducible
      apply Appd.mk; k_allIn
      apply Ev_int
      apply eq_ii
      apply truthy_b
    refine ⟨fun hb => ?_, fun hb => ?_⟩
    · with_reducible
        apply Ev_loc; assumption; k_allIn
      refine Has.mk (led' := L1 (st' + 1)) (by k_allIn) ⟨cs ++ [k], st' + 1, ?_, by rw [List.length_append, List.length_singleton]; omega, by omega, rfl⟩
      show _ = List.map _ (List.map _ (_ ++ _))
      rw [List.map_append, List.map_append]; rfl
    · exact Has.mk (led' := L1 (st' + 1)) (by k_allIn) ⟨cs, st' + 1, rfl, by omega, by omega, rfl⟩
  rintro acc led ⟨fl, st2, rfl, hfl, hs2, rfl⟩
  rw [show (signs (S "cdsr")).length = 4 from rfl] at hfl hs2
  with_reducible
    apply Appd.mk; k_allIn
  intro D
  with_reducible
    apply EvL_nil
  refine join_s (by k_allIn) (by decide +kernel) (by rw [oneS_sum, List.length_map]; omega) ?_
  rw [join_one]
  generalize hf0 : mkS fl = f
  replace hf0 := Eq.symm hf0
  with_reducible
    apply Stored.mk; k_allIn
  let L2 : Nat → Addr → Addr → List Int → List Int → Led := fun st' d1 d2 c1 c2 => [(ad (S "jar"), .cell (some (.ref jar))), (jar, .dS [(S "cells", .ref cl), (S "step", .int (st' : Nat))]), (cl, .list (lst cells)), (lm, .inst 636 ld), (ld, lmA (M : Nat)), (rn, .inst 614 rd), (rd, rnA h c lm n1 n2 n3 n4 n5 n6 n7 n8 n9 n10), (c, .inst 579 cd), (cd, ctA h p e), (p, .dI (plD pl)), (e, .dI (plD none)), (x, .inst 117 d), (d, scA 1 wk val), (d1, .list (lst c1)), (d2, .list (lst c2))]
  let L3 : Nat → Led := fun st' => [(ad (S "jar"), .cell (some (.ref jar))), (jar, .dS [(S "cells", .ref cl), (S "step", .int (st' : Nat))]), (cl, .list (lst cells)), (c, .inst 579 cd), (cd, ctA h p e), (p, .dI (plD pl)), (e, .dI (plD none)), (x, .inst 117 d), (d, scA 1 wk val)]
  let P2 : Str → Str → AV → AV → Bool → Loc := fun y z sv gv b => [(S "heap", some (.ref h)), (S "counter", some (.ref c)), (S "most", some (.int (M : Nat))), (S "run", some (.ref rn)), (S "scalar", some (.ref x)), (S "value", some val), (S "text", some (.str txt)), (S "place", some (optA pl)), (S "flags", some (.str f)), (S "source", some (.str y)), (S "sources", some sv), (S "target", some (.str z)), (S "goals", some gv), (S "is_let", some (.bool b)), (S "heard", none), (S "made", none), (S "count", none)]
  refine Ex_cut3 O (fun l dd => C25 st fun st4 y z c1 c2 b1 b2 sv gv =>
    ((Fits b1 c1 M ∧ Fits b2 c2 M ∧ ∃ d1 d2, l = P2 y z (.ref d1) (.ref d2) true ∧ dd = L2 st4 d1 d2 c1 c2) ∨ (¬ (Fits b1 c1 M ∧ Fits b2 c2 M) ∧ l = P2 y z sv gv false ∧ dd = L1 st4))) ?_ ?_
  · with_reducible
      apply Ex_AssignTup; (k_dflt rfl); (k_dflt rfl)
    with_reducible refine Ev_call O G (by k_allIn) (fun w => by k_dflt kernel_rfl!) (by k_dflt rfl) ?_
    with_reducible
      apply EvL_cons; (k_dflt rfl)
      apply Ev_cell; assumption; (decide +kernel); assumption; k_allIn
      apply EvL_nil
    refine OpL_FS (fs_law_list (st := st2) hz (by omega)) O hh (room_of hr rfl) (by decide) (by k_allIn) ?_
    rintro _ _ ⟨st3, y, c1, b1, hs3, L1', hl1, hn1, hv1⟩
    have hst3 : st3 < 2 ^ 28 := by omega
    have hc1 : c1.length < 1000 := Nat.lt_trans hn1 (by decide)
    rcases hv1 with ⟨rfl, d1, rfl, rfl⟩ | ⟨rfl, rfl, rfl⟩
    · with_reducible
        apply Appd.mk; k_allIn
        apply asn_2; assumption; (k_dflt assumption)
        apply Stored.mk; k_allIn
        apply Stored.mk; k_allIn
      refine ⟨rfl, ?_⟩
      with_reducible
        apply Ex_AssignTup; (k_dflt rfl); (k_dflt rfl)
      with_reducible refine Ev_call O G (by k_allIn) (fun w => by k_dflt kernel_rfl!) (by k_dflt rfl) ?_
      with_reducible
        apply EvL_cons; (k_dflt rfl)
        apply Ev_cell; assumption; (decide +kernel); assumption; k_allIn
        apply EvL_nil
      refine OpL_FS (fs_law_list (st := st3) hz hst3) O hh (room_of hr rfl) (by decide) (by k_allIn) ?_
      rintro _ _ ⟨st4, z, c2, b2, hs4, L2', hl2, hn2, hv2⟩
      have hc2 : c2.length < 1000 := Nat.lt_trans hn2 (by decide)
      have hst4 : st4 ≤ st + 190 := by omega
      rcases hv2 with ⟨rfl, d2, rfl, rfl⟩ | ⟨rfl, rfl, rfl⟩
      · with_reducible
          apply Appd.mk; k_allIn
          apply asn_2; assumption; (k_dflt assumption)
          apply Stored.mk; k_allIn
          apply Stored.mk; k_allIn
        refine ⟨rfl, ?_⟩
        with_reducible
          apply Ex_Assign; assumption; (k_dflt rfl)
          apply Ev_And
          apply Ev_Compare; (k_dflt rfl)
          apply Ev_loc; assumption; k_allIn
          apply Ev_none
          apply isnot_n
          apply truthy_b
          refine Two.t rfl ?_
          apply Ev_And
          apply Ev_Compare; (k_dflt rfl)
          apply Ev_loc; assumption; k_allIn
          apply Ev_none
          apply isnot_n
          apply truthy_b
          refine Two.t rfl ?_
          apply Ev_And
          apply Ev_Compare; (k_dflt rfl)
          apply Ev_callB; assumption; assumption; k_allIn; (k_dflt rfl)
          apply EvL_cons; (k_dflt rfl)
          apply Ev_loc; assumption; k_allIn
          apply EvL_nil
          apply len_list; k_allIn; (k_dflt (simp only [List.length_map, List.length_append, List.length_cons, List.length_nil] <;> omega))
          apply Ev_loc; assumption; k_allIn
          apply le_ii
          apply truthy_b
        rw [List.length_map]
        refine ⟨fun hb => ?_, fun hb => ?_⟩
        · have hle1 : c1.length ≤ M := by have := of_decide_eq_true hb; omega
          with_reducible
            apply Ev_Bool1
            apply Ev_Compare; (k_dflt rfl)
            apply Ev_callB; assumption; assumption; k_allIn; (k_dflt rfl)
            apply EvL_cons; (k_dflt rfl)
            apply Ev_loc; assumption; k_allIn
            apply EvL_nil
            apply len_list; k_allIn; (k_dflt (simp only [List.length_map, List.length_append, List.length_cons, List.length_nil] <;> omega))
            apply Ev_loc; assumption; k_allIn
            apply le_ii
            apply Stored.mk; k_allIn
          rw [List.length_map]
          by_cases hle2 : c2.length ≤ M
          · rw [decide_eq_true (show ((c2.length : Nat) : Int) ≤ ((M : Nat) : Int) from by omega)]
            refine ⟨rfl, ?_⟩
            exact Has.mk (led' := L2 st4 d1 d2 c1 c2) (by k_allIn) ⟨st4, y, z, c1, c2, false, false, .none, .none, hst4, L1', L2', hl1, hl2, hn1, hn2, .inl ⟨⟨rfl, hle1⟩, ⟨rfl, hle2⟩, d1, d2, rfl, rfl⟩⟩
          · rw [decide_eq_false (show ¬ ((c2.length : Nat) : Int) ≤ ((M : Nat) : Int) from by omega)]
            refine ⟨rfl, ?_⟩
            exact Has.mk (led' := L1 st4) (by k_allIn) ⟨st4, y, z, c1, c2, false, false, .ref d1, .ref d2, hst4, L1', L2', hl1, hl2, hn1, hn2, .inr ⟨fun q => hle2 q.2.2, rfl, rfl⟩⟩
        · have hle1 : ¬ c1.length ≤ M := by have := of_decide_eq_false hb; omega
          rw [hb]
          with_reducible
            apply Stored.mk; k_allIn
          refine ⟨rfl, ?_⟩
          exact Has.mk (led' := L1 st4) (by k_allIn) ⟨st4, y, z, c1, c2, false, false, .ref d1, .ref d2, hst4, L1', L2', hl1, hl2, hn1, hn2, .inr ⟨fun q => hle1 q.1.2, rfl, rfl⟩⟩
      · with_reducible
          apply Appd.mk; k_allIn
          apply asn_2; assumption; (k_dflt assumption)
          apply Stored.mk; k_allIn
          apply Stored.mk; k_allIn
        refine ⟨rfl, ?_⟩
        with_reducible
          apply Ex_Assign; assumption; (k_dflt rfl)
          apply Ev_And
          apply Ev_Compare; (k_dflt rfl)
          apply Ev_loc; assumption; k_allIn
          apply Ev_none
          apply isnot_n
          apply truthy_b
          refine Two.t rfl ?_
          apply Ev_And
          apply Ev_Compare; (k_dflt rfl)
          apply Ev_loc; assumption; k_allIn
          apply Ev_none
          apply isnot_n
          apply truthy_b
          refine Two.f rfl ?_
          apply Stored.mk; k_allIn
        refine ⟨rfl, ?_⟩
        exact Has.mk (led' := L1 st4) (by k_allIn) ⟨st4, y, z, c1, c2, false, true, .ref d1, .none, hst4, L1', L2', hl1, hl2, hn1, hn2, .inr ⟨fun q => (nomatch q.2.1), rfl, rfl⟩⟩
    · with_reducible
        apply Appd.mk; k_allIn
        apply asn_2; assumption; (k_dflt assumption)
        apply Stored.mk; k_allIn
        apply Stored.mk; k_allIn
      refine ⟨rfl, ?_⟩
      with_reducible
        apply Ex_AssignTup; (k_dflt rfl); (k_dflt rfl)
      with_reducible refine Ev_call O G (by k_allIn) (fun w => by k_dflt kernel_rfl!) (by k_dflt rfl) ?_
      with_reducible
        apply EvL_cons; (k_dflt rfl)
        apply Ev_cell; assumption; (decide +kernel); assumption; k_allIn
        apply EvL_nil
      refine OpL_FS (fs_law_list (st := st3) hz hst3) O hh (room_of hr rfl) (by decide) (by k_allIn) ?_
      rintro _ _ ⟨st4, z, c2, b2, hs4, L2', hl2, hn2, hv2⟩
      have hst4 : st4 ≤ st + 190 := by omega
      rcases hv2 with ⟨rfl, d2, rfl, rfl⟩ | ⟨rfl, rfl, rfl⟩
      · with_reducible
          apply Appd.mk; k_allIn
          apply asn_2; assumption; (k_dflt assumption)
          apply Stored.mk; k_allIn
          apply Stored.mk; k_allIn
        refine ⟨rfl, ?_⟩
        with_reducible
          apply Ex_Assign; assumption; (k_dflt rfl)
          apply Ev_And
          apply Ev_Compare; (k_dflt rfl)
          apply Ev_loc; assumption; k_allIn
          apply Ev_none
          apply isnot_n
          apply truthy_b
          refine Two.f rfl ?_
          apply Stored.mk; k_allIn
        refine ⟨rfl, ?_⟩
        exact Has.mk (led' := L1 st4) (by k_allIn) ⟨st4, y, z, c1, c2, true, false, .none, .ref d2, hst4, L1', L2', hl1, hl2, hn1, hn2, .inr ⟨fun q => (nomatch q.1.1), rfl, rfl⟩⟩
      · with_reducible
          apply Appd.mk; k_allIn
          apply asn_2; assumption; (k_dflt assumption)
          apply Stored.mk; k_allIn
          apply Stored.mk; k_allIn
        refine ⟨rfl, ?_⟩
        with_reducible
          apply Ex_Assign; assumption; (k_dflt rfl)
          apply Ev_And
          apply Ev_Compare; (k_dflt rfl)
          apply Ev_loc; assumption; k_allIn
          apply Ev_none
          apply isnot_n
          apply truthy_b
          refine Two.f rfl ?_
          apply Stored.mk; k_allIn
        refine ⟨rfl, ?_⟩
        exact Has.mk (led' := L1 st4) (by k_allIn) ⟨st4, y, z, c1, c2, true, true, .none, .none, hst4, L1', L2', hl1, hl2, hn1, hn2, .inr ⟨fun q => (nomatch q.1.1), rfl, rfl⟩⟩
  rintro _ _ ⟨st4, y, z, c1, c2, b1, b2, sv, gv, hs4, L1', L2', hl1, hl2, hn1, hn2, ⟨hF1, hF2, d1, d2, rfl, rfl⟩ | ⟨hF, rfl, rfl⟩⟩
  · with_reducible
      apply Ex_cons; assumption
    refine Ex_TryDie (Y := fun _ _ => False) O Z X G (by k_allIn) (fun w => by kernel_rfl!) (fun E O2 Z2 => ?_) (fun b loc led h => h.elim)
    with_reducible
      apply Ex_cons; assumption
      apply Ex_Assign; assumption; (k_dflt rfl)
    refine Ev_call O2 G (by k_allIn) (fun w => by kernel_rfl!) (by k_dflt rfl) ?_
    with_reducible
      apply EvL_cons; (k_dflt rfl)
      apply Ev_loc; assumption; k_allIn
      apply EvL_cons; (k_dflt rfl)
      apply Ev_loc; assumption; k_allIn
      apply EvL_cons; (k_dflt rfl)
      apply Ev_loc; assumption; k_allIn
      apply EvL_cons; (k_dflt rfl)
      apply Ev_loc; assumption; k_allIn
      apply EvL_cons; (k_dflt rfl)
      apply Ev_loc; assumption; k_allIn
      apply EvL_nil
    refine OpL_FSX (fs_trans_scalar (f := f) L1' L2' hM hl1 hl2 (txt_of hsc).1 (txt_of hsc).2 (Nat.le_trans htl (by decide)) htc) O2 hh (room_of hr rfl) (by decide) (by k_allIn) Z2 ?_ ?_
    · rintro _ ⟨hn, _⟩
      exact absurd ⟨hF1, hF2⟩ hn
    rintro _ _ ⟨_, _, kvs, barred, T, r, hr0, hcase⟩
    have pw := plain_law (sq := hasF f 115) (x := txt.cps.toList) T hl1 hl2 htc
    rw [← hr0] at pw
    have hlaw := @fs_law_turned d1 d2 c1 c2 f txt (Nat.lt_trans hn1 (by decide)) (Nat.lt_trans hn2 (by decide)) hl1 hl2 htl htc
    obtain ⟨W, hW⟩ : ∃ W, W = (runW (madeC (hasF f 99) c1 (keysL c1) c2 (hasF f 100)) (hasF f 115) txt.cps.toList).1 := ⟨_, rfl⟩
    obtain ⟨N, hN⟩ : ∃ N, N = cntW (madeC (hasF f 99) c1 (keysL c1) c2 (hasF f 100)) txt.cps.toList := ⟨_, rfl⟩
    rw [← hW, ← hN] at pw hlaw
    obtain ⟨pw1, pw2⟩ := pw
    rw [pw1, pw2] at hcase
    rcases hcase with ⟨h114, rfl, rfl⟩ | ⟨h114, he, rfl, rfl⟩ | ⟨h114, hne, rfl, rfl⟩
    · with_reducible
        apply Appd.mk; k_allIn
        apply Stored.mk; k_allIn
        apply Ex_nil
        apply Ex_cons; assumption
        apply Ex_If
        apply EvB_Not
        apply EvB_plain; (k_dflt rfl)
        apply Ev_loc; assumption; k_allIn
        apply truthy_b
        refine Two.f rfl ?_
        apply Ex_nil
        apply Ex_cons; assumption
        apply Ex_AssignTup; (k_dflt rfl); (k_dflt rfl)
      with_reducible refine Ev_call O G (by k_allIn) (fun w => by k_dflt kernel_rfl!) (by k_dflt rfl) ?_
      with_reducible
        apply EvL_cons; (k_dflt rfl)
        apply Ev_loc; assumption; k_allIn
        apply EvL_cons; (k_dflt rfl)
        apply Ev_loc; assumption; k_allIn
        apply EvL_cons; (k_dflt rfl)
        apply Ev_loc; assumption; k_allIn
        apply EvL_cons; (k_dflt rfl)
        apply Ev_loc; assumption; k_allIn
        apply EvL_nil
      refine OpL_FSe hlaw O hh (room_of hr rfl) (by decide) (by k_allIn) ?_
      with_reducible
        apply Appd.mk; k_allIn
        apply asn_2; assumption; (k_dflt assumption)
        apply Stored.mk; k_allIn
        apply Stored.mk; k_allIn
        apply Ex_cons; assumption
        apply Ex_If
        apply EvB_BoolOp
        apply any_cons
        apply EvB_Compare; (k_dflt rfl)
        apply Ev_str
        apply Ev_loc; assumption; k_allIn
      refine in_S (c := 114) (by decide +kernel) ?_
      rw [h114]
      with_reducible
        apply truthy_b
        refine Two.t rfl ?_
        refine Two.t rfl ?_
        apply Ex_cons; assumption
        apply Ex_Return
        apply Ev_And
        apply Ev_Compare; (k_dflt rfl)
        apply Ev_loc; assumption; k_allIn
        apply Ev_IfExp
        apply EvB_Compare; (k_dflt rfl)
        apply Ev_str
        apply Ev_loc; assumption; k_allIn
      refine in_S (c := 114) (by decide +kernel) ?_
      rw [h114]
      with_reducible
        apply truthy_b
        refine Two.t rfl ?_
        apply Ev_loc; assumption; k_allIn
        apply eq_ss
        apply truthy_b
      refine .t (beq_self_eq_true _) ?_
      with_reducible
        apply Ev_And
        apply Ev_Compare; (k_dflt rfl)
        apply Ev_Attr; (with_unfolding_all rfl)
        apply Ev_loc; assumption; k_allIn
        apply get_at; assumption; k_allIn; k_allIn; (first | exact cls117 | exact cls389 | exact cls579 | exact cls614 | exact cls636 | exact cls276); (k_dflt rfl); k_allIn
        apply Ev_loc; assumption; k_allIn
      refine eq_val hsc ?_
      with_reducible
        apply truthy_b
        refine Two.t rfl ?_
        apply Ev_Bool1
        apply Ev_Compare; (k_dflt rfl)
      with_reducible refine Ev_call O G (by k_allIn) (fun w => by k_dflt kernel_rfl!) (by k_dflt rfl) ?_
      with_reducible
        apply EvL_cons; (k_dflt rfl)
        apply Ev_loc; assumption; k_allIn
        apply EvL_cons; (k_dflt rfl)
        apply Ev_loc; assumption; k_allIn
        apply EvL_nil
      refine OpL_FSb (b := false) fs_pos_of O (fun e => nomatch e) (by rw [hr]; decide) (by decide) (by k_allIn) ?_
      rintro _ _ ⟨rfl, rfl⟩
      with_reducible
        apply Appd.mk; k_allIn
        apply Ev_loc; assumption; k_allIn
      refine eq_opt ?_
      exact Has.mk (led' := jarL jar cl cells st4) (by k_allIn) ⟨st4, by omega, rfl, rfl⟩
    · with_reducible
        apply Appd.mk; k_allIn
        apply Stored.mk; k_allIn
        apply Ex_nil
        apply Ex_cons; assumption
        apply Ex_If
        apply EvB_Not
        apply EvB_plain; (k_dflt rfl)
        apply Ev_loc; assumption; k_allIn
        apply truthy_b
        refine Two.f rfl ?_
        apply Ex_nil
        apply Ex_cons; assumption
        apply Ex_AssignTup; (k_dflt rfl); (k_dflt rfl)
      with_reducible refine Ev_call O G (by k_allIn) (fun w => by k_dflt kernel_rfl!) (by k_dflt rfl) ?_
      with_reducible
        apply EvL_cons; (k_dflt rfl)
        apply Ev_loc; assumption; k_allIn
        apply EvL_cons; (k_dflt rfl)
        apply Ev_loc; assumption; k_allIn
        apply EvL_cons; (k_dflt rfl)
        apply Ev_loc; assumption; k_allIn
        apply EvL_cons; (k_dflt rfl)
        apply Ev_loc; assumption; k_allIn
        apply EvL_nil
      refine OpL_FSe hlaw O hh (room_of hr rfl) (by decide) (by k_allIn) ?_
      with_reducible
        apply Appd.mk; k_allIn
        apply asn_2; assumption; (k_dflt assumption)
        apply Stored.mk; k_allIn
        apply Stored.mk; k_allIn
        apply Ex_cons; assumption
        apply Ex_If
        apply EvB_BoolOp
        apply any_cons
        apply EvB_Compare; (k_dflt rfl)
        apply Ev_str
        apply Ev_loc; assumption; k_allIn
      refine in_S (c := 114) (by decide +kernel) ?_
      rw [h114]
      with_reducible
        apply truthy_b
        refine Two.f rfl ?_
        apply any_cons
        apply EvB_Compare; (k_dflt rfl)
        apply Ev_loc; assumption; k_allIn
        apply Ev_loc; assumption; k_allIn
        apply eq_ss
        apply truthy_b
      rw [show (W == txt) = true from by rw [he]; exact beq_self_eq_true _]
      with_reducible
        refine Two.t rfl ?_
        refine Two.t rfl ?_
        apply Ex_cons; assumption
        apply Ex_Return
        apply Ev_And
        apply Ev_Compare; (k_dflt rfl)
        apply Ev_loc; assumption; k_allIn
        apply Ev_IfExp
        apply EvB_Compare; (k_dflt rfl)
        apply Ev_str
        apply Ev_loc; assumption; k_allIn
      refine in_S (c := 114) (by decide +kernel) ?_
      rw [h114]
      with_reducible
        apply truthy_b
        refine Two.f rfl ?_
        apply Ev_loc; assumption; k_allIn
        apply eq_ii
        apply truthy_b
      refine .t (beq_self_eq_true _) ?_
      with_reducible
        apply Ev_And
        apply Ev_Compare; (k_dflt rfl)
        apply Ev_Attr; (with_unfolding_all rfl)
        apply Ev_loc; assumption; k_allIn
        apply get_at; assumption; k_allIn; k_allIn; (first | exact cls117 | exact cls389 | exact cls579 | exact cls614 | exact cls636 | exact cls276); (k_dflt rfl); k_allIn
        apply Ev_loc; assumption; k_allIn
      refine eq_val hsc ?_
      with_reducible
        apply truthy_b
        refine Two.t rfl ?_
        apply Ev_Bool1
        apply Ev_Compare; (k_dflt rfl)
      with_reducible refine Ev_call O G (by k_allIn) (fun w => by k_dflt kernel_rfl!) (by k_dflt rfl) ?_
      with_reducible
        apply EvL_cons; (k_dflt rfl)
        apply Ev_loc; assumption; k_allIn
        apply EvL_cons; (k_dflt rfl)
        apply Ev_loc; assumption; k_allIn
        apply EvL_nil
      refine OpL_FSb (b := false) fs_pos_of O (fun e => nomatch e) (by rw [hr]; decide) (by decide) (by k_allIn) ?_
      rintro _ _ ⟨rfl, rfl⟩
      with_reducible
        apply Appd.mk; k_allIn
        apply Ev_loc; assumption; k_allIn
      refine eq_opt ?_
      exact Has.mk (led' := jarL jar cl cells st4) (by k_allIn) ⟨st4, by omega, rfl, rfl⟩
    · with_reducible
        apply Appd.mk; k_allIn
        apply Stored.mk; k_allIn
        apply Ex_nil
        apply Ex_cons; assumption
        apply Ex_If
        apply EvB_Not
        apply EvB_plain; (k_dflt rfl)
        apply Ev_loc; assumption; k_allIn
        apply truthy_b
        refine Two.f rfl ?_
        apply Ex_nil
        apply Ex_cons; assumption
        apply Ex_AssignTup; (k_dflt rfl); (k_dflt rfl)
      with_reducible refine Ev_call O G (by k_allIn) (fun w => by k_dflt kernel_rfl!) (by k_dflt rfl) ?_
      with_reducible
        apply EvL_cons; (k_dflt rfl)
        apply Ev_loc; assumption; k_allIn
        apply EvL_cons; (k_dflt rfl)
        apply Ev_loc; assumption; k_allIn
        apply EvL_cons; (k_dflt rfl)
        apply Ev_loc; assumption; k_allIn
        apply EvL_cons; (k_dflt rfl)
        apply Ev_loc; assumption; k_allIn
        apply EvL_nil
      refine OpL_FSe hlaw O hh (room_of hr rfl) (by decide) (by k_allIn) ?_
      with_reducible
        apply Appd.mk; k_allIn
        apply asn_2; assumption; (k_dflt assumption)
        apply Stored.mk; k_allIn
        apply Stored.mk; k_allIn
        apply Ex_cons; assumption
        apply Ex_If
        apply EvB_BoolOp
        apply any_cons
        apply EvB_Compare; (k_dflt rfl)
        apply Ev_str
        apply Ev_loc; assumption; k_allIn
      refine in_S (c := 114) (by decide +kernel) ?_
      rw [h114]
      with_reducible
        apply truthy_b
        refine Two.f rfl ?_
        apply any_cons
        apply EvB_Compare; (k_dflt rfl)
        apply Ev_loc; assumption; k_allIn
        apply Ev_loc; assumption; k_allIn
        apply eq_ss
        apply truthy_b
      rw [show (W == txt) = false from beq_eq_false_iff_ne.mpr hne]
      with_reducible
        refine Two.f rfl ?_
        apply any_nil
        refine Two.f rfl ?_
        apply Ex_nil
        apply Ex_cons; assumption
        apply Ex_Return
        apply Ev_And
        apply Ev_Compare; (k_dflt rfl)
        apply Ev_loc; assumption; k_allIn
        apply Ev_loc; assumption; k_allIn
        apply eq_ii
        apply truthy_b
      refine .t (beq_self_eq_true _) ?_
      with_reducible
        apply Ev_And
        apply Ev_Compare; (k_dflt rfl)
        apply Ev_Attr; (with_unfolding_all rfl)
        apply Ev_loc; assumption; k_allIn
        apply get_at; assumption; k_allIn; k_allIn; (first | exact cls117 | exact cls389 | exact cls579 | exact cls614 | exact cls636 | exact cls276); (k_dflt rfl); k_allIn
        apply Ev_loc; assumption; k_allIn
        apply eq_ss
        apply truthy_b
      refine .t (beq_self_eq_true _) ?_
      with_reducible
        apply Ev_Bool1
        apply Ev_Compare; (k_dflt rfl)
      with_reducible refine Ev_call O G (by k_allIn) (fun w => by k_dflt kernel_rfl!) (by k_dflt rfl) ?_
      with_reducible
        apply EvL_cons; (k_dflt rfl)
        apply Ev_loc; assumption; k_allIn
        apply EvL_cons; (k_dflt rfl)
        apply Ev_loc; assumption; k_allIn
        apply EvL_nil
      refine OpL_FSb (b := false) fs_pos_of O (fun e => nomatch e) (by rw [hr]; decide) (by decide) (by k_allIn) ?_
      rintro _ _ ⟨rfl, rfl⟩
      with_reducible
        apply Appd.mk; k_allIn
        apply Ev_none
        apply is_n
      exact Has.mk (led' := jarL jar cl cells st4) (by k_allIn) ⟨st4, by omega, rfl, rfl⟩
  · with_reducible
      apply Ex_cons; assumption
    refine Ex_TryDie (Y := fun l dd => l = P2 y z sv gv false ∧ ∃ rest, PickO dd (L3 st4) rest) O Z X G (by k_allIn) (fun w => by kernel_rfl!) (fun E O2 Z2 => ?_) ?_
    · with_reducible
        apply Ex_cons; assumption
        apply Ex_Assign; assumption; (k_dflt rfl)
      refine Ev_call O2 G (by k_allIn) (fun w => by kernel_rfl!) (by k_dflt rfl) ?_
      with_reducible
        apply EvL_cons; (k_dflt rfl)
        apply Ev_loc; assumption; k_allIn
        apply EvL_cons; (k_dflt rfl)
        apply Ev_loc; assumption; k_allIn
        apply EvL_cons; (k_dflt rfl)
        apply Ev_loc; assumption; k_allIn
        apply EvL_cons; (k_dflt rfl)
        apply Ev_loc; assumption; k_allIn
        apply EvL_cons; (k_dflt rfl)
        apply Ev_loc; assumption; k_allIn
        apply EvL_nil
      refine OpL_FSX (fs_trans_scalar (f := f) L1' L2' hM hl1 hl2 (txt_of hsc).1 (txt_of hsc).2 (Nat.le_trans htl (by decide)) htc) O2 hh (room_of hr rfl) (by decide) (by k_allIn) Z2 ?_ ?_
      · rintro _ ⟨hn, rfl⟩
        refine Appd.mk (by k_allIn) ?_
        exact ⟨rfl, _, by k_allIn⟩
      · rintro _ _ ⟨f1, f2, _⟩
        exact absurd ⟨f1, f2⟩ hF
    · rintro b _ led ⟨rfl, rest, hH⟩ Ob hbd hbr hbc
      refine Ex_has (P := fun dd => dd = L3 st4) (Has.mk hH rfl) ?_
      rintro _ rfl
      with_reducible
        apply Ex_cons; assumption
        apply Ex_Return
        apply Ev_And
        apply Ev_UnaryOp
        apply Ev_loc; assumption; k_allIn
        apply not_v
        apply truthy_b
        apply truthy_b
        refine Two.t rfl ?_
        apply Ev_And
        apply Ev_Compare; (k_dflt rfl)
        apply Ev_Attr; (with_unfolding_all rfl)
        apply Ev_loc; assumption; k_allIn
        apply get_at; assumption; k_allIn; k_allIn; (first | exact cls117 | exact cls389 | exact cls579 | exact cls614 | exact cls636 | exact cls276); (k_dflt rfl); k_allIn
        apply Ev_loc; assumption; k_allIn
      refine eq_val hsc ?_
      with_reducible
        apply truthy_b
        refine Two.t rfl ?_
        apply Ev_Bool1
        apply Ev_Compare; (k_dflt rfl)
      refine Ev_call Ob G (by k_allIn) (fun w => by kernel_rfl!) (by k_dflt rfl) ?_
      with_reducible
        apply EvL_cons; (k_dflt rfl)
        apply Ev_loc; assumption; k_allIn
        apply EvL_cons; (k_dflt rfl)
        apply Ev_loc; assumption; k_allIn
        apply EvL_nil
      refine OpL_FSb (b := false) fs_pos_of Ob (fun e => nomatch e) (by rw [hbr, hr]; decide) (by decide) (by k_allIn) ?_
      rintro _ _ ⟨rfl, rfl⟩
      with_reducible
        apply Appd.mk; k_allIn
        apply Ev_loc; assumption; k_allIn
      refine eq_opt ?_
      exact ⟨_, rfl, Has.mk (led' := jarL jar cl cells st4) (by k_allIn) ⟨st4, by omega, rfl, rfl⟩⟩


/-! ## groups -/
theorem cut_len {q : Nat} (h : q < 7) : (Txt.slice (S "abcdefgh") none (some ((2 : Int) + (q : Int)))).length = 2 + q := by
  have : ∀ q : Nat, q < 7 → (Txt.slice (S "abcdefgh") none (some ((2 : Int) + (q : Int)))).length = 2 + q := by decide +kernel
  exact this q h
theorem pick8 {i : Nat} (h : i < 8) : ∃ c, (Str.ofString "gimsxcoi").cps.toList[i]? = some c := by
  have : ∀ i < 8, ((Str.ofString "gimsxcoi").cps.toList[i]?).isSome = true := by decide +kernel
  exact Option.isSome_iff_exists.mp (this i h)
theorem signs_join (cs : List Nat) : signs (Txt.join (S "") (oneS cs)) = (oneS cs).map .str := by
  rw [join_one]
  unfold signs
  rw [List.map_map]; rfl
theorem len_join (cs : List Nat) : (Txt.join (S "") (oneS cs)).length = cs.length := by rw [join_one]; rfl
theorem flat_strs (cs : List Str) : (cs.map AV.str).all (·.flat) = true := List.all_eq_true.mpr fun x hx => by
  obtain ⟨y, _, rfl⟩ := List.mem_map.mp hx; rfl
theorem flat_groups (x : Str) (ps : List (Option (Nat × Nat))) : (ps.map (gvA x)).all (·.flat) = true := List.all_eq_true.mpr fun y hy => by
  obtain ⟨p, _, rfl⟩ := List.mem_map.mp hy
  cases p <;> rfl
theorem four_signs : [AV.str (S "i"), .str (S "m"), .str (S "s"), .str (S "x")] = signs (S "imsx") := by with_unfolding_all rfl
theorem gr_snoc {x : Str} {ps : List (Option (Nat × Nat))} {p : Option (Nat × Nat)} (h : ∀ p ∈ ps, GrOk x p) (h' : GrOk x p) : ∀ q ∈ ps ++ [p], GrOk x q := fun q hq => by
  rcases List.mem_append.mp hq with hq | hq
  · exact h q hq
  · rw [List.mem_singleton.mp hq]; exact h'
theorem iter_be {sc : Scope} {a : Act sc} {loc : Loc} {led : Led} {r : Addr} {x e : Nat} (O : a.Ok) (H : a.hd = true) (hx : x < 2 ^ 30) (he : e < 2 ^ 30) : IterOf a (.ref r) (rng (x : Nat) e) [(r, .range (x : Nat) ((x + e : Nat) : Int))] loc led := by
  have := iter_range (loc := loc) (led := led) (r := r) (lo := (x : Nat)) (hi := ((x + e : Nat) : Int)) O H (by omega) (by omega) (by omega) (by omega)
  rwa [show (((x + e : Nat) : Int) - (x : Nat)).toNat = e from by omega] at this
theorem rng_at {lo : Int} {n i : Nat} {av : AV} (h : (rng lo n)[i]? = some av) : i < n ∧ av = .int (lo + (i : Nat)) := by
  unfold rng at h
  rw [List.getElem?_map] at h
  obtain ⟨j, e, rfl⟩ := Option.map_eq_some_iff.mp h
  obtain ⟨h1, h2⟩ := List.getElem?_eq_some_iff.mp e
  rw [List.length_range] at h1
  rw [List.getElem_range] at h2
  exact ⟨h1, by rw [← h2]⟩
theorem take_some {l : List Nat} {i c : Nat} (h : l[i]? = some c) : oneS (l.take (i + 1)) = oneS (l.take i) ++ [⟨#[c]⟩] := map_snoc h
inductive J26 (x : Str) (gd0 dd0 : Addr) (y0 : AV) (L : Nat → Option AV → Led) (st i : Nat) (loc : Loc) (led : Led) : Prop
  | intro (ps : List (Option (Nat × Nat))) (st' : Nat) (l1 l2 l3 l4 : Option AV) (h1 : ps.length = i) (h2 : ∀ p ∈ ps, GrOk x p) (h3 : st' ≤ st + 2 + 3 * i)
    (hl : loc = [(S "groups", some (.ref gd0)), (S "due", some (.ref dd0)), (S "turn", l1), (S "begin", l2), (S "end", l3), (S "is_there", l4), (S "heeded", none)])
    (hd : led = (gd0, .list (y0 :: ps.map grA)) :: (dd0, .list (ps.map (gvA x))) :: L st' none)
theorem turn26 {st st' i : Nat} (h : st' ≤ st + 2 + 3 * i) (hst : st < 2 ^ 28) (hi : i < 4) : st' < 2 ^ 29 ∧ st' + 1 < 2 ^ 29 ∧ st' + 1 + 1 < 2 ^ 29 ∧ st' + 1 + 1 + 1 ≤ st + 2 + 3 * (i + 1) := by omega
theorem grp26 {n b e : Nat} (hb : b < n + 1) (he : e < n + 1 - b) : b + e ≤ n := by omega
theorem sub26 {n b : Nat} (hb : b < n + 1) : ((n : Int) + 1 - (b : Int)) = ((n + 1 - b : Nat) : Int) := by omega
theorem g679 : GOk (scf 679) [(S "_law_fall", .ref 647), (S "len", .builtin "len"), (S "range", .type "range"), (S "group_values", .ref 480), (S "list", .type "list"), (S "own_flags", .ref 468)] := .cons (by decide +kernel) gl__law_fall (.cons (by decide +kernel) gl_len (.cons (by decide +kernel) gl_range (.cons (by decide +kernel) gl_group_values (.cons (by decide +kernel) gl_list (.cons (by decide +kernel) gl_own_flags .nil)))))
theorem fs_law_groups {jar cl : Addr} {cells : List Int} {st : Nat} (hz : cells.length < 1000000) (hst : st < 2 ^ 28) :
    FS 679 8 [.ref jar] (jarL jar cl cells st) fun v led => v = .bool true ∧ ∃ st', led = jarL jar cl cells st' := by
  refine FSX.introC (scf 679) [S "jar"] [(S "groups", none), (S "due", none), (S "turn", none), (S "begin", none), (S "end", none), (S "is_there", none), (S "heeded", none)] [(S "jar", some (.ref jar)), (S "text", none), (S "flags", none)] [S "jar", S "text", S "flags"] rfl (fun P => by rfl) (fun P => by kernel_rfl!) (by rfl) rfl (by decide +kernel) (fun vs h => len1 (P := fun vs => bindArgs _ ⟨vs, []⟩ = pure (([S "jar"]).zip vs)) (fun _ => rfl) vs h) (by decide +kernel) (show ([S "groups", S "due", S "turn", S "begin", S "end", S "is_there", S "heeded"] : List Str).all (fun x => decide ((scf 679).names.lookup x = some .local) && !(x == ("__debug__" : Str))) = true from by decide +kernel) (show ([S "groups", S "due", S "turn", S "begin", S "end", S "is_there", S "heeded"] : List Str).Nodup from by decide +kernel) (by decide +kernel) (by decide +kernel) (by rfl) (by rfl) (by rfl) (by intro _ _ h; revert h; exact InitL.mem (by repeat (first | exact InitL.nil | apply InitL.none | apply InitL.some | exact GetK.here | apply GetK.there)) _ _) (by intro _ _ h; revert h; exact InitL.mem (by repeat (first | exact InitL.nil | apply InitL.none | apply InitL.some | exact GetK.here | apply GetK.there)) _ _) ?_ (by decide)
  intro a ad O hr hh hcl Z
  have hc_jar := hcl (S "jar") (.head _)
  have hc_text := hcl (S "text") (.tail _ (.head _))
  have hc_flags := hcl (S "flags") (.tail _ (.tail _ (.head _)))
  have G := g679
  refine Ex_cells (l := [(ad (S "jar"), AO.cell (some (.ref jar))), (ad (S "text"), AO.cell none), (ad (S "flags"), AO.cell none)]) (by k_allIn) ?_
  with_reducible refine Ex_cons O ?_
  refine Ex_AssignCell O (by decide +kernel) hc_text (by k_dflt rfl) ?_
  refine Ev_SliceC (by intro _ _ _; rfl) ?_
  with_reducible
    apply Ev_str
    apply ex_str
    apply evP_none
    apply evP_some
    apply Ev_BinOp
    apply Ev_int
  with_reducible refine Ev_call O G (by k_allIn) (fun w => by k_dflt kernel_rfl!) (by k_dflt rfl) ?_
  with_reducible
    apply EvL_cons; (k_dflt rfl)
    apply Ev_cell; assumption; (decide +kernel); assumption; k_allIn
    apply EvL_cons; (k_dflt rfl)
    apply Ev_int
    apply EvL_nil
  refine OpL_FSn (fs_fallN 7 (by decide) hz (Nat.lt_of_lt_of_le hst (by decide))) O hh (room_of hr rfl) (by decide) (by k_allIn) (fun q hq => ?_)
  with_reducible
    apply Appd.mk; k_allIn
    apply add_ii
    apply ex_int
  refine ⟨by decide, ?_⟩
  have hxl := cut_len hq
  obtain ⟨x, hx⟩ : ∃ x, x = Txt.slice (S "abcdefgh") none (some ((2 : Int) + (q : Int))) := ⟨_, rfl⟩
  rw [← hx] at hxl ⊢
  have hx8 : x.length ≤ 8 := by omega
  have hxi : (x.length : Int) < 2 ^ 63 := by omega
  refine ⟨_, _, by k_allIn, by k_allIn, ?_⟩
  with_reducible
    apply Ex_cons; assumption
    apply Ex_Swap2; assumption; (k_dflt assumption); (k_dflt rfl); (k_dflt rfl)
    apply Ev_Tuple
    apply EvL_cons; (k_dflt rfl)
    apply Ev_List
    apply EvL_cons; (k_dflt rfl)
    apply Ev_Tuple
    apply EvL_cons; (k_dflt rfl)
    apply Ev_int
    apply EvL_cons; (k_dflt rfl)
    apply Ev_callB; assumption; assumption; k_allIn; (k_dflt rfl)
    apply EvL_cons; (k_dflt rfl)
    apply Ev_cell; assumption; (decide +kernel); assumption; k_allIn
    apply EvL_nil
    apply len_s; assumption
    apply EvL_nil
    apply new_tuple; (k_dflt exact Nat.le_of_ble_eq_true rfl)
    apply EvL_nil
    apply new_list; assumption; (k_dflt exact Nat.le_of_ble_eq_true rfl); intro _
    apply EvL_cons; (k_dflt rfl)
    apply Ev_List
    apply EvL_nil
    apply new_list; assumption; (k_dflt exact Nat.le_of_ble_eq_true rfl); intro _
    apply EvL_nil
    apply new_tuple; (k_dflt exact Nat.le_of_ble_eq_true rfl)
    apply sw2
    apply Stored.mk; k_allIn
    apply Stored.mk; k_allIn
    apply Ex_cons; assumption
    apply Ex_For; assumption; (intro _; k_dflt rfl)
    apply Ev_callT; assumption; assumption; k_allIn; (k_dflt rfl)
    apply EvL_cons; (k_dflt rfl)
  rename_i gd0 dd0
  with_reducible refine Ev_call O G (by k_allIn) (fun w => by k_dflt kernel_rfl!) (by k_dflt rfl) ?_
  with_reducible
    apply EvL_cons; (k_dflt rfl)
    apply Ev_cell; assumption; (decide +kernel); assumption; k_allIn
    apply EvL_cons; (k_dflt rfl)
    apply Ev_int
    apply EvL_nil
  refine OpL_FSn (fs_fallN 4 (by decide) hz (Nat.lt_of_lt_of_le (Nat.add_lt_add_right hst 1) (by decide))) O hh (room_of hr rfl) (by decide) (by k_allIn) (fun n hn => ?_)
  with_reducible
    apply Appd.mk; k_allIn
    apply EvL_nil
    apply range_1; assumption; intro _
  rename_i rr
  let y0 : AV := .tup [.int 0, .int (x.length : Nat)]
  let L : Nat → Option AV → Led := fun st' fl => [(ad (S "jar"), .cell (some (.ref jar))), (ad (S "text"), .cell (some (.str x))), (ad (S "flags"), .cell fl), (jar, .dS [(S "cells", .ref cl), (S "step", .int (st' : Nat))]), (cl, .list (lst cells))]
  let J : Nat → Loc → Led → Prop := J26 x gd0 dd0 y0 L st
  refine ForA.mk (rng 0 n) [_] _ J (.cons .here .nil) (iter_upto O hh (Nat.lt_trans hn (by decide))) (Has.mk (led' := (gd0, .list [y0]) :: (dd0, .list []) :: L (st + 1 + 1) none) (by k_allIn) ⟨[], _, _, _, _, _, rfl, fun _ h => (nomatch h), Nat.le_refl _, rfl, rfl⟩) ?_ ?_
  · rintro h i av loc led O _ hav ⟨ps, st', l1, l2, l3, l4, hps, hok, hs', rfl, rfl⟩
    obtain ⟨hi, rfl⟩ := rng_get0 hav
    have hi4 : i < 4 := Nat.lt_trans hi hn
    obtain ⟨b1, b2, b3, b4⟩ := turn26 hs' hst hi4
    have hc_x : (a.loop h).cl.lookup (S "text") = some (ad (S "text")) := hc_text
    have hc_j : (a.loop h).cl.lookup (S "jar") = some (ad (S "jar")) := hc_jar
    have fin : ∀ {p : Option (Nat × Nat)} {u v : AV} {l1 l2 l3 l4 : Option AV} {led' rest : Led}, GrOk x p → u = grA p → v = gvA x p → PickO led' ((gd0, .list ((y0 :: ps.map grA) ++ [u])) :: (dd0, .list (ps.map (gvA x) ++ [v])) :: L (st' + 1 + 1 + 1) none) rest →
        Has led' (J (i + 1) [(S "groups", some (.ref gd0)), (S "due", some (.ref dd0)), (S "turn", l1), (S "begin", l2), (S "end", l3), (S "is_there", l4), (S "heeded", none)]) := by
      rintro p _ _ l1 l2 l3 l4 led' rest hp rfl rfl pk
      refine Has.mk pk ⟨ps ++ [p], st' + 1 + 1 + 1, _, _, _, _, by rw [List.length_append, hps]; rfl, gr_snoc hok hp, b4, rfl, ?_⟩
      rw [List.map_append, List.map_append]; rfl
    have hap : (y0 :: ps.map grA).length ≤ 1000000 := by rw [List.length_cons, List.length_map, hps]; exact Nat.le_trans hi4 (by decide)
    have hap2 : (ps.map (gvA x)).length ≤ 1000000 := by rw [List.length_map, hps]; exact Nat.le_trans (Nat.le_of_lt hi4) (by decide)
    with_reducible
      apply asn_name; assumption; k_allIn
      apply Ex_cons; assumption
      apply Ex_Assign; assumption; (k_dflt rfl)
    with_reducible refine Ev_call O G (by k_allIn) (fun w => by k_dflt kernel_rfl!) (by k_dflt rfl) ?_
    with_reducible
      apply EvL_cons; (k_dflt rfl)
      apply Ev_cell; assumption; (decide +kernel); assumption; k_allIn
      apply EvL_cons; (k_dflt rfl)
      apply Ev_BinOp
      apply Ev_callB; assumption; assumption; k_allIn; (k_dflt rfl)
      apply EvL_cons; (k_dflt rfl)
      apply Ev_cell; assumption; (decide +kernel); assumption; k_allIn
      apply EvL_nil
      apply len_s; assumption
      apply Ev_int
      apply add_ii
      apply EvL_nil
    refine OpL_FSn (fs_fallN (x.length + 1) (Nat.succ_pos _) hz b1) O hh (room_of hr rfl) (by decide) (by k_allIn) (fun b hb => ?_)
    with_reducible
      apply Appd.mk; k_allIn
      apply Stored.mk; k_allIn
      apply Ex_cons; assumption
      apply Ex_Assign; assumption; (k_dflt rfl)
      apply Ev_BinOp
      apply Ev_loc; assumption; k_allIn
    with_reducible refine Ev_call O G (by k_allIn) (fun w => by k_dflt kernel_rfl!) (by k_dflt rfl) ?_
    with_reducible
      apply EvL_cons; (k_dflt rfl)
      apply Ev_cell; assumption; (decide +kernel); assumption; k_allIn
      apply EvL_cons; (k_dflt rfl)
      apply Ev_BinOp
      apply Ev_BinOp
      apply Ev_callB; assumption; assumption; k_allIn; (k_dflt rfl)
      apply EvL_cons; (k_dflt rfl)
      apply Ev_cell; assumption; (decide +kernel); assumption; k_allIn
      apply EvL_nil
      apply len_s; assumption
      apply Ev_int
      apply add_ii
      apply Ev_loc; assumption; k_allIn
      apply sub_ii
      apply EvL_nil
    rw [show ((x.length : Int) + 1 - (b : Int)) = ((x.length + 1 - b : Nat) : Int) from sub26 hb]
    refine OpL_FSn (fs_fallN (x.length + 1 - b) (Nat.sub_pos_of_lt hb) hz b2) O hh (room_of hr rfl) (by decide) (by k_allIn) (fun e he => ?_)
    have hbe : b + e ≤ x.length := grp26 hb he
    with_reducible
      apply Appd.mk; k_allIn
      apply add_ii
      apply Stored.mk; k_allIn
      apply Ex_cons; assumption
      apply Ex_Assign; assumption; (k_dflt rfl)
      apply Ev_Compare; (k_dflt rfl)
    with_reducible refine Ev_call O G (by k_allIn) (fun w => by k_dflt kernel_rfl!) (by k_dflt rfl) ?_
    with_reducible
      apply EvL_cons; (k_dflt rfl)
      apply Ev_cell; assumption; (decide +kernel); assumption; k_allIn
      apply EvL_cons; (k_dflt rfl)
      apply Ev_int
      apply EvL_nil
    refine OpL_FSn (fs_fallN 4 (by decide) hz b3) O hh (room_of hr rfl) (by decide) (by k_allIn) (fun t ht => ?_)
    with_reducible
      apply Appd.mk; k_allIn
      apply Ev_int
      apply gt_ii
      apply Stored.mk; k_allIn
      apply Ex_cons; assumption
      apply Ex_Expr; (k_dflt rfl); (k_dflt rfl)
    obtain ⟨tb, htb⟩ : ∃ tb, tb = decide ((0 : Int) < (t : Int)) := ⟨_, rfl⟩
    rw [← htb, show ((b : Int) + (e : Int)) = ((b + e : Nat) : Int) from rfl]
    cases tb
    · skip
      with_reducible refine Ev_meth (by with_unfolding_all rfl) (by k_dflt rfl) ?_
      with_reducible
        apply Ev_loc; assumption; k_allIn
        apply MethA.mk; apply m_append; k_allIn
        apply EvL_cons; (k_dflt rfl)
        apply Ev_IfExp
        apply EvB_plain; (k_dflt rfl)
        apply Ev_loc; assumption; k_allIn
        apply truthy_b
        refine Two.f rfl ?_
        apply Ev_none
        apply EvL_nil
        apply append_l; k_allIn; k_allIn; assumption
        apply Ex_cons; assumption
        apply Ex_Expr; (k_dflt rfl); (k_dflt rfl)
      with_reducible refine Ev_meth (by with_unfolding_all rfl) (by k_dflt rfl) ?_
      with_reducible
        apply Ev_loc; assumption; k_allIn
        apply MethA.mk; apply m_append; k_allIn
        apply EvL_cons; (k_dflt rfl)
        apply Ev_IfExp
        apply EvB_plain; (k_dflt rfl)
        apply Ev_loc; assumption; k_allIn
        apply truthy_b
        refine Two.f rfl ?_
        apply Ev_none
        apply EvL_nil
        apply append_l; k_allIn; k_allIn; assumption
        apply Ex_nil
      exact fin (p := none) (fun _ h => nomatch h) rfl rfl (by k_allIn)
    · skip
      with_reducible refine Ev_meth (by with_unfolding_all rfl) (by k_dflt rfl) ?_
      with_reducible
        apply Ev_loc; assumption; k_allIn
        apply MethA.mk; apply m_append; k_allIn
        apply EvL_cons; (k_dflt rfl)
        apply Ev_IfExp
        apply EvB_plain; (k_dflt rfl)
        apply Ev_loc; assumption; k_allIn
        apply truthy_b
        refine Two.t rfl ?_
        apply Ev_Tuple
        apply EvL_cons; (k_dflt rfl)
        apply Ev_loc; assumption; k_allIn
        apply EvL_cons; (k_dflt rfl)
        apply Ev_loc; assumption; k_allIn
        apply EvL_nil
        apply new_tuple; (k_dflt exact Nat.le_of_ble_eq_true rfl)
        apply EvL_nil
        apply append_l; k_allIn; k_allIn; assumption
        apply Ex_cons; assumption
        apply Ex_Expr; (k_dflt rfl); (k_dflt rfl)
      with_reducible refine Ev_meth (by with_unfolding_all rfl) (by k_dflt rfl) ?_
      with_reducible
        apply Ev_loc; assumption; k_allIn
        apply MethA.mk; apply m_append; k_allIn
        apply EvL_cons; (k_dflt rfl)
        apply Ev_IfExp
        apply EvB_plain; (k_dflt rfl)
        apply Ev_loc; assumption; k_allIn
        apply truthy_b
        refine Two.t rfl ?_
      with_reducible refine Ev_meth (by with_unfolding_all rfl) (by k_dflt rfl) ?_
      with_reducible
        apply Ev_str
        apply MethA.mk; apply m_join
        apply EvL_cons; (k_dflt rfl)
      refine Ev_ListComp ad [S "k"] O (by decide +kernel) (fun y hy => by cases List.mem_singleton.mp hy; exact hc_x) (by intro _; rfl) ?_
      with_reducible
        apply Ev_callT; assumption; assumption; k_allIn; (k_dflt rfl)
        apply EvL_cons; (k_dflt rfl)
        apply Ev_loc; assumption; k_allIn
        apply EvL_cons; (k_dflt rfl)
        apply Ev_loc; assumption; k_allIn
        apply EvL_nil
        apply range_2; assumption; intro _
      refine CompA.mke (rng (b : Nat) e) [_] _ ((gd0, .list ((y0 :: ps.map grA) ++ [.tup [.int (b : Nat), .int ((b + e : Nat) : Int)]])) :: (dd0, .list (ps.map (gvA x))) :: L (st' + 1 + 1 + 1) none) (fun i => (oneS ((x.cps.toList.drop b).take i)).map .str) (.cons .here .nil) (by rw [rng_len]; omega) (iter_be O hh (by omega) (by omega)) (by k_allIn) rfl ?_ ?_
      · intro cc i av O hcr hch hcl hav
        have hf := hcl (S "text") (.head _)
        obtain ⟨hi, rfl⟩ := rng_at hav
        obtain ⟨c, hc⟩ : ∃ c, x.cps.toList[b + i]? = some c := ⟨_, List.getElem?_eq_getElem (by rw [len_cps]; omega)⟩
        refine asn_name O .here (ct_nil (.t rfl ?_))
        with_reducible
          apply Ev_Sub
          apply Ev_cell; assumption; (decide +kernel); assumption; k_allIn
          apply Ev_loc; assumption; k_allIn
        rw [show ((b : Int) + (i : Int)) = ((b + i : Nat) : Int) from rfl]
        refine sub_sn (by omega) hc (by intro _ _; with_unfolding_all rfl) (by intro _ _; rfl) ?_
        refine Has.mk (led' := (gd0, .list ((y0 :: ps.map grA) ++ [.tup [.int (b : Nat), .int ((b + e : Nat) : Int)]])) :: (dd0, .list (ps.map (gvA x))) :: L (st' + 1 + 1 + 1) none) (by k_allIn) ⟨?_, rfl⟩
        rw [take_some (c := c) (by rw [List.getElem?_drop]; exact hc), List.map_append]; rfl
      · skip
        rw [rng_len]
        with_reducible
          apply Appd.mk; k_allIn
        intro D
        with_reducible
          apply EvL_nil
        refine join_s (by k_allIn) (by decide) ?_ ?_
        · rw [oneS_sum, List.length_map]
          have := List.length_take_le e (x.cps.toList.drop b)
          omega
        rw [join_one]
        with_reducible
          apply EvL_nil
          apply append_l; k_allIn; k_allIn; assumption
          apply Ex_nil
        exact fin (p := some (b, b + e)) (fun q hq => by cases hq; exact ⟨Nat.le_add_right _ _, hbe⟩) rfl (by show _ = AV.str (subS x b (b + e)); unfold subS; rw [Nat.add_sub_cancel_left]) (by k_allIn)
  · rintro loc led ⟨ps, st', l1, l2, l3, l4, hps, hok, hs', rfl, rfl⟩
    rw [rng_len] at hps hs'
    have b1 : st' < 2 ^ 29 := by omega
    have b2 : ∀ i k, i < 6 → k ≤ st' + 1 + i → k < 2 ^ 29 := fun i k h1 h2 => by omega
    let M0 : Nat → Option AV → Led := fun st2 fl => (gd0, .list (y0 :: ps.map grA)) :: (dd0, .list (ps.map (gvA x))) :: L st2 fl
    refine Appd.mk (by k_allIn) ?_
    with_reducible refine Ex_cons O ?_
    refine Ex_AssignCell O (by decide +kernel) hc_flags (by k_dflt rfl) ?_
    with_reducible refine Ev_meth (by with_unfolding_all rfl) (by k_dflt rfl) ?_
    with_reducible
      apply Ev_str
      apply MethA.mk; apply m_join
      apply EvL_cons; (k_dflt rfl)
    refine Ev_ListComp ad [S "turn"] O (by decide +kernel) (fun y hy => by cases List.mem_singleton.mp hy; exact hc_jar) (by intro _; rfl) ?_
    with_reducible
      apply Ev_callT; assumption; assumption; k_allIn; (k_dflt rfl)
      apply EvL_cons; (k_dflt rfl)
    with_reducible refine Ev_call O G (by k_allIn) (fun w => by k_dflt kernel_rfl!) (by k_dflt rfl) ?_
    with_reducible
      apply EvL_cons; (k_dflt rfl)
      apply Ev_cell; assumption; (decide +kernel); assumption; k_allIn
      apply EvL_cons; (k_dflt rfl)
      apply Ev_int
      apply EvL_nil
    refine OpL_FSn (fs_fallN 6 (by decide) hz b1) O hh (room_of hr rfl) (by decide) (by k_allIn) (fun m hm => ?_)
    with_reducible
      apply Appd.mk; k_allIn
      apply EvL_nil
      apply range_1; assumption; intro _
    refine CompA.mk (rng 0 m) [_] _ (fun i acc led => ∃ cs st2, acc = (oneS cs).map .str ∧ cs.length = i ∧ st2 ≤ st' + 1 + i ∧ led = M0 st2 none) (.cons .here .nil) (by rw [rng_len]; omega) (iter_upto O hh (Nat.lt_trans hm (by decide))) (Has.mk (led' := M0 (st' + 1) none) (by k_allIn) ⟨[], _, rfl, rfl, Nat.le_refl _, rfl⟩) ?_ ?_
    · rintro cc i av acc led O hcr hch hcl hav ⟨cs, st2, rfl, rfl, hs2, rfl⟩
      have G := GOk.one cc (x := S "_law_fall") (by decide +kernel) gl__law_fall
      have hf := hcl (S "jar") (.head _)
      have hh : cc.hd = true := hch.trans hh
      obtain ⟨hi, rfl⟩ := rng_get0 hav
      refine asn_name O .here (ct_nil (.t rfl ?_))
      with_reducible
        apply Ev_Sub
        apply Ev_str
      with_reducible refine Ev_call O G (by k_allIn) (fun w => by k_dflt kernel_rfl!) (by k_dflt rfl) ?_
      with_reducible
        apply EvL_cons; (k_dflt rfl)
        apply Ev_cell; assumption; (decide +kernel); assumption; k_allIn
        apply EvL_cons; (k_dflt rfl)
        apply Ev_int
        apply EvL_nil
      refine OpL_FSn (fs_fallN 8 (by decide) hz (b2 _ _ (Nat.lt_trans hi hm) hs2)) O hh (room_of (hcr.trans hr) rfl) (by decide) (by k_allIn) (fun q hq => ?_)
      obtain ⟨k, hk⟩ := pick8 hq
      with_reducible
        apply Appd.mk; k_allIn
      refine sub_sn (by decide +kernel) hk (by intro _ _; with_unfolding_all rfl) (by intro _ _; rfl) ?_
      refine Has.mk (led' := M0 (st2 + 1) none) (by k_allIn) ⟨cs ++ [k], st2 + 1, ?_, by rw [List.length_append]; rfl, by omega, rfl⟩
      show _ = List.map _ (List.map _ (_ ++ _))
      rw [List.map_append, List.map_append]; rfl
    rintro acc led ⟨cs, st2, rfl, hcs, hs2, rfl⟩
    rw [rng_len] at hcs
    with_reducible
      apply Appd.mk; k_allIn
    intro D
    with_reducible
      apply EvL_nil
    refine join_s (by k_allIn) (by decide) ?_ ?_
    · rw [oneS_sum, List.length_map]; omega
    generalize hF : Txt.join (S "") (oneS cs) = F
    replace hF := Eq.symm hF
    refine ⟨_, _, by k_allIn, by k_allIn, ?_⟩
    with_reducible
      apply Ex_cons; assumption
    refine Ex_AssignComp ad [S "flag"] O (by k_dflt rfl) (by decide +kernel) (fun y hy => by cases List.mem_singleton.mp hy; exact hc_flags) (by intro _; rfl) ?_
    with_reducible
      apply Ev_Tuple
      apply EvL_cons; (k_dflt rfl)
      apply Ev_str
      apply EvL_cons; (k_dflt rfl)
      apply Ev_str
      apply EvL_cons; (k_dflt rfl)
      apply Ev_str
      apply EvL_cons; (k_dflt rfl)
      apply Ev_str
      apply EvL_nil
      apply new_tuple; (k_dflt exact Nat.le_of_ble_eq_true rfl)
    obtain ⟨p, hp⟩ : ∃ p : Nat → Bool, p = fun c => decide (c ∈ F.cps.toList) := ⟨_, rfl⟩
    refine CompA.mke (signs (S "imsx")) [] _ (M0 st2 (some (.str F))) (fun i => (oneS (((S "imsx").cps.toList.take i).filter p)).map .str) .nil (by decide) (four_signs ▸ iter_tup O hh) (by k_allIn) rfl ?_ ?_
    · intro cc i av O hcr hch hcl hav
      obtain ⟨k, hk, rfl⟩ := signs_get hav
      have hs := filt_snoc (p := p) hk
      have hf := hcl (S "flags") (.head _)
      refine asn_name O .here (ct_one ?_)
      with_reducible
        apply EvB_Compare; (k_dflt rfl)
      with_reducible refine Ev_meth (by with_unfolding_all rfl) (by k_dflt rfl) ?_
      with_reducible
        apply Ev_cell; assumption; (decide +kernel); assumption; k_allIn
        apply MethA.mk; apply m_count
        apply EvL_cons; (k_dflt rfl)
        apply Ev_loc; assumption; k_allIn
        apply EvL_nil
      refine count_s ?_
      with_reducible
        apply Ev_int
        apply gt_ii
        apply truthy_b
      rw [count_pos, show decide (k ∈ F.cps.toList) = p k from by rw [hp]]
      refine ⟨fun hb => ?_, fun hb => ?_⟩
      · rw [hb, if_pos rfl] at hs
        with_reducible
          apply Ev_loc; assumption; k_allIn
        refine Has.mk (led' := M0 st2 (some (.str F))) (by k_allIn) ⟨?_, rfl⟩
        rw [hs]
        show _ = List.map _ (List.map _ (_ ++ _))
        rw [List.map_append, List.map_append]; rfl
      · rw [hb, if_neg (by decide), List.append_nil] at hs
        refine Has.mk (led' := M0 st2 (some (.str F))) (by k_allIn) ⟨?_, rfl⟩
        rw [hs]
    · skip
      have hl : (S "imsx").cps.toList.take (signs (S "imsx")).length = (S "imsx").cps.toList := by unfold signs; rw [List.length_map, List.take_length]
      rw [hl]
      refine Appd.mk .nil ?_
      intro D2
      with_reducible
        apply Stored.mk; k_allIn
        apply Ex_cons; assumption
        apply Ex_Return
        apply Ev_And
        apply Ev_Compare; (k_dflt rfl)
      with_reducible refine Ev_call O G (by k_allIn) (fun w => by k_dflt kernel_rfl!) (by k_dflt rfl) ?_
      with_reducible
        apply EvL_cons; (k_dflt rfl)
        apply Ev_cell; assumption; (decide +kernel); assumption; k_allIn
        apply EvL_cons; (k_dflt rfl)
        apply Ev_loc; assumption; k_allIn
        apply EvL_nil
      subst hp
      by_cases hne : ps = []
      · subst hne
        show cCons _ _ _ _ ((D2, _) :: (gd0, .list [y0]) :: (dd0, .list []) :: L st2 (some (.str F)))
        refine OpL_FS fs_group_values0 O hh (room_of hr rfl) (by decide) (by k_allIn) ?_
        rintro _ _ ⟨d, rfl, rfl⟩
        with_reducible
          apply Appd.mk; k_allIn
          apply Ev_IfExp
          apply EvB_Compare; (k_dflt rfl)
          apply Ev_loc; assumption; k_allIn
          apply Ev_List
          apply EvL_nil
          apply new_list; assumption; (k_dflt exact Nat.le_of_ble_eq_true rfl); intro _
          apply ne_nil; assumption; k_allIn; k_allIn
          apply truthy_b
          refine Two.f rfl ?_
          apply Ev_List
          apply EvL_cons; (k_dflt rfl)
          apply Ev_int
          apply EvL_nil
          apply new_list; assumption; (k_dflt exact Nat.le_of_ble_eq_true rfl); intro _
        refine eq_same O (by k_allIn) (by k_allIn) rfl ?_
        with_reducible
          apply truthy_b
          refine Two.t rfl ?_
          apply Ev_Bool1
          apply Ev_Compare; (k_dflt rfl)
          apply Ev_callT; assumption; assumption; k_allIn; (k_dflt rfl)
          apply EvL_cons; (k_dflt rfl)
        with_reducible refine Ev_call O G (by k_allIn) (fun w => by k_dflt kernel_rfl!) (by k_dflt rfl) ?_
        with_reducible
          apply EvL_cons; (k_dflt rfl)
          apply Ev_cell; assumption; (decide +kernel); assumption; k_allIn
          apply EvL_nil
        refine OpL_FSe fs_own_flags O hh (room_of hr rfl) (by decide) .nil ?_
        with_reducible
          apply Appd.mk; k_allIn
          apply EvL_nil
        refine list_str O hh (by rw [len_join]; exact Nat.le_trans (List.length_filter_le _ _) (by decide +kernel)) fun r2 => ?_
        rw [signs_join]
        with_reducible
          apply Ev_loc; assumption; k_allIn
        refine eq_same O (by k_allIn) (by k_allIn) (flat_strs _) ?_
        exact Has.mk (led' := jarL jar cl cells st2) (by k_allIn) ⟨rfl, st2, rfl⟩
      · refine OpL_FS (fs_group_values (y := y0) hok (Nat.le_trans hx8 (by decide)) hne (by omega)) O hh (room_of hr rfl) (by decide) (by k_allIn) ?_
        rintro _ _ ⟨d, rfl, rfl⟩
        with_reducible
          apply Appd.mk; k_allIn
          apply Ev_IfExp
          apply EvB_Compare; (k_dflt rfl)
          apply Ev_loc; assumption; k_allIn
          apply Ev_List
          apply EvL_nil
          apply new_list; assumption; (k_dflt exact Nat.le_of_ble_eq_true rfl); intro _
          apply ne_nil; assumption; k_allIn; k_allIn
          apply truthy_b
        refine .t (by cases ps with | nil => exact absurd rfl hne | cons _ _ => rfl) ?_
        with_reducible
          apply Ev_loc; assumption; k_allIn
        refine eq_same O (by k_allIn) (by k_allIn) (flat_groups x ps) ?_
        with_reducible
          apply truthy_b
          refine Two.t rfl ?_
          apply Ev_Bool1
          apply Ev_Compare; (k_dflt rfl)
          apply Ev_callT; assumption; assumption; k_allIn; (k_dflt rfl)
          apply EvL_cons; (k_dflt rfl)
        with_reducible refine Ev_call O G (by k_allIn) (fun w => by k_dflt kernel_rfl!) (by k_dflt rfl) ?_
        with_reducible
          apply EvL_cons; (k_dflt rfl)
          apply Ev_cell; assumption; (decide +kernel); assumption; k_allIn
          apply EvL_nil
        refine OpL_FSe fs_own_flags O hh (room_of hr rfl) (by decide) .nil ?_
        with_reducible
          apply Appd.mk; k_allIn
          apply EvL_nil
        refine list_str O hh (by rw [len_join]; exact Nat.le_trans (List.length_filter_le _ _) (by decide +kernel)) fun r2 => ?_
        rw [signs_join]
        with_reducible
          apply Ev_loc; assumption; k_allIn
        refine eq_same O (by k_allIn) (by k_allIn) (flat_strs _) ?_
        exact Has.mk (led' := jarL jar cl cells st2) (by k_allIn) ⟨rfl, st2, rfl⟩


/-! ## the law -/
noncomputable def cellF (c : Int) : Int := (if c < 0 then -c else c).fmod 1000000000
theorem GOk.ofA {sc : Scope} (_a : Act sc) {gs : List (Str × Value)} (h : GOk sc gs) : GOk sc gs := h
theorem law_holds : PySem.Challenge.rw_qd0147_01.Holds := by
  refine PySem.Challenge.hd ?_
  k_fill
  intro w s₀ s₁ mg mb GG Y fa o pm cd doc dV kV ho hd hcd hD hmg hg args vals as hpre hlay hrd hwl hlo
  have KX := kIn_of Y
  dsimp only [Calls.docDef] at hd hcd hD hmg
  wrow_args hpre hlay hrd hwl hlo
  rename_i xs _ _ _ _ _ _ _ ld ws _ hL _ _ _ hI _ hlen _
  have hz : xs.length ≤ 63 := by omega
  have hdV : dV = .none := by
    rcases hD.pos with ⟨_, h⟩ | ⟨h, _⟩
    · exact h
    · exact absurd rfl h
  have hkV : kV = .none := by
    rcases hD.kw with ⟨_, h⟩ | ⟨h, _⟩
    · exact h
    · exact absurd rfl h
  subst hdV
  subst hkV
  clear hmg hD
  have hgl : Glob w mg mb s₁.heap := ⟨topRead_of GG.T, KX⟩
  have hLn : s₁.heap.get? s₁.heap.objs.size = none := fresh_get _
  have key : wpAny (model PW w) callerA (call (.ref fa) [.ref ld]) (FPost w s₁ [] (fun v led => v = .bool true ∧ led = [])) (fun _ _ => False) s₁ := by
    refine wpAny_call ?_
    refine codeAny_call_def (binds := [(S "script", .ref ld)]) (by decide +kernel) ho hd hgl.1.nolimit hcd rfl (BindsTo.of_eq (by first | with_unfolding_all rfl | kernel_rfl! | kernel_rfl)) (by dsimp only; decide +kernel) (by dsimp only; exact fun x hx => by rw [List.mem_singleton.mp hx]; show List.lookup (S "script") _ = _; decide +kernel) (fun h₀ hns hk₀ => ?_)
    dsimp only [callEnv]
    refine FS.core (b := true) (n := 12) (led := []) (cells := []) (X := fun _ => False) (R := fun v led => v = .bool true ∧ led = []) (loc₀ := [(S "script", some (.ref ld)), (S "jar", none), (S "turn", none)]) (P := FPost w s₁ [] fun v led => v = .bool true ∧ led = []) rfl hgl (fun _ _ e => e) (fun p hp => nomatch hp) .nil ⟨fun _ => rfl, by decide +kernel, by decide +kernel, by decide⟩ (by decide) ⟨[], rfl, fun _ h => nomatch h⟩ ?_ hLn hk₀ hns ?_ (show [S "script", S "jar", S "turn"].Nodup by decide +kernel) ?_ (fun p hp => nomatch hp) .nil (fun _ _ => False) (fun _ _ h => h.elim) (fun _ _ h => h) ?_
    · exact fun l e s' _ h => h.no
    · exact start_loc (xs := [S "script"]) (args := [.ref ld]) (ys := [S "jar", S "turn"]) (vs := [.ref ld]) (by decide +kernel) ⟨_, _, rfl, rfl, rfl⟩ (TK.keeps hk₀) fun x v hv => lookup_zip (xs := [S "script"]) (vs := [Value.ref ld]) (by decide +kernel) hv
    · show ∀ x ∈ [S "script", S "jar", S "turn"], _ ∧ _
      dsimp only
      decide +kernel
    intro a O hr hh hcl Z U
    have hb : a.h₀.IsList ld ws.toArray := by rw [U.h₀]; exact hL
    have hF : ∀ l, a.A.frames = some l → ∀ b ∈ frs l, b = a.L := by
      intro l hl b hbm
      rw [U.A, Around.frames_deeper (A := callerA) rfl] at hl
      cases hl
      have e : frs [a.env] = [a.L] := by
        show List.filterMap (fun e : Env => e.frame) [a.env] = _
        rw [List.filterMap_cons, show a.env.frame = some a.L from U.fr.trans (by rw [U.isL])]; rfl
      rw [e] at hbm
      exact List.mem_singleton.mp hbm
    have G := GOk.ofA a (gs := [(S "range", Value.type "range"), (S "_law_trans_right", .ref 674), (S "_law_groups_right", .ref 679)]) (.cons (by decide +kernel) gl_range (.cons (by decide +kernel) gl__law_trans_right (.cons (by decide +kernel) gl__law_groups_right .nil)))
    show Ex a _ _ [] _
    with_reducible refine Ex_cons O ?_
    refine Ex_Assign O (by k_dflt rfl) ?_
    refine Ev_DictS2 O (by decide) fun D => ?_
    refine Ev_ListComp (fun _ => 0) [S "cell"] O (by decide +kernel) (fun y hy => nomatch hy) (by intro _; rfl) ?_
    refine Ev_SliceToB (k := 60) O (by intro _ _; rfl) hb hI (by omega) ?_
    with_reducible
      apply Ev_loc; assumption; k_allIn
    refine ⟨rfl, ?_⟩
    with_reducible
      apply evP_some
      apply Ev_int
      apply ex_int
    refine ⟨rfl, fun r => ?_⟩
    have htz : (xs.take 60).length ≤ 60 := List.length_take_le _ _
    refine CompA.mke (lst (xs.take 60)) [(r, .list (lst (xs.take 60)))] _ ([(D, .dS [])]) (fun i => lst (((xs.take 60).take i).map cellF)) (.cons .here .nil) (by rw [List.length_map]; omega) (iter_list O hh) (by k_allIn) rfl ?_ ?_
    · intro cc i av O hcr hch hcl hav
      have G := GOk.one cc (x := S "abs") (by decide +kernel) gl_abs
      rw [List.getElem?_map] at hav
      obtain ⟨c, hci, rfl⟩ := Option.map_eq_some_iff.mp hav
      refine asn_name O .here (ct_nil (.t rfl ?_))
      with_reducible
        apply Ev_BinOp
        apply Ev_callB; assumption; assumption; k_allIn; (k_dflt rfl)
        apply EvL_cons; (k_dflt rfl)
        apply Ev_loc; assumption; k_allIn
        apply EvL_nil
      refine abs_i ?_
      with_reducible
        apply Ev_BinOp
        apply Ev_int
        apply Ev_int
      refine pow_109 ?_
      refine mod_ii (by decide) ?_
      refine Has.mk (led' := [(D, .dS [])]) (by k_allIn) ⟨?_, rfl⟩
      rw [map_snoc (f := cellF) hci, ← lst_app']; rfl
    skip
    rw [List.length_map, List.take_length]
    obtain ⟨cells, hcells⟩ : ∃ cells, cells = (xs.take 60).map cellF := ⟨_, rfl⟩
    have hcz : cells.length < 1000000 := by rw [hcells, List.length_map]; omega
    rw [← hcells]
    with_reducible
      apply Appd.mk; k_allIn
    intro Dl
    with_reducible
      apply Ev_int
    refine ⟨_, by k_allIn, by k_allIn, ?_⟩
    with_reducible
      apply Stored.mk; k_allIn
      apply Ex_cons; assumption
      apply Ex_For; assumption; (intro _; k_dflt rfl)
      apply Ev_callT; assumption; assumption; k_allIn; (k_dflt rfl)
      apply EvL_cons; (k_dflt rfl)
      apply Ev_int
      apply EvL_nil
      apply range_1; assumption; intro _
    rename_i rr
    let J : Nat → Loc → Led → Prop := fun i loc led => ∃ st l1, st ≤ 200 * i ∧ loc = [(S "script", some (.ref ld)), (S "jar", some (.ref D)), (S "turn", l1)] ∧ led = jarL D Dl cells st
    refine ForA.mk (rng 0 3) [_] _ J (.cons .here .nil) (iter_upto O hh (by decide)) (Has.mk (led' := [(D, .dS [(S "cells", .ref Dl), (S "step", .int 0)]), (Dl, .list (lst cells))]) (by k_allIn) ⟨0, _, Nat.zero_le _, rfl, rfl⟩) ?_ ?_
    · rintro h i av loc led O _ hav ⟨st, l1, hst, rfl, rfl⟩
      obtain ⟨hi, rfl⟩ := rng_get0 hav
      with_reducible
        apply asn_name; assumption; k_allIn
        apply Ex_cons; assumption
        apply Ex_If
        apply EvB_Not
        apply EvB_plain; (k_dflt rfl)
      with_reducible refine Ev_call O G (by k_allIn) (fun w => by k_dflt kernel_rfl!) (by k_dflt rfl) ?_
      with_reducible
        apply EvL_cons; (k_dflt rfl)
        apply Ev_loc; assumption; k_allIn
        apply EvL_nil
      refine OpL_FSW (fs_law_right hcz (show st < 2 ^ 27 by omega)) O hh (by rw [show (a.loop h).room = a.room from rfl, hr]; decide) (by decide) hF (by k_allIn) ?_
      rintro _ _ ⟨st', hst', rfl, rfl⟩
      with_reducible
        apply Appd.mk; k_allIn
        apply truthy_b
        refine Two.f rfl ?_
        apply Ex_nil
        apply Ex_nil
      exact Has.mk (led' := jarL D Dl cells st') (by k_allIn) ⟨st', _, by omega, rfl, rfl⟩
    · rintro loc led ⟨st, l1, hst, rfl, rfl⟩
      rw [rng_len] at hst
      with_reducible
        apply Appd.mk; k_allIn
        apply Ex_cons; assumption
        apply Ex_Return
      with_reducible refine Ev_call O G (by k_allIn) (fun w => by k_dflt kernel_rfl!) (by k_dflt rfl) ?_
      with_reducible
        apply EvL_cons; (k_dflt rfl)
        apply Ev_loc; assumption; k_allIn
        apply EvL_nil
      refine OpL_FS (fs_law_groups hcz (show st < 2 ^ 28 by omega)) O hh (room_of hr rfl) (by decide) (by k_allIn) ?_
      rintro _ _ ⟨rfl, st', rfl⟩
      with_reducible
        apply Appd.mk; k_allIn
      exact Has.mk (led' := []) .nil ⟨rfl, rfl⟩
  refine wpAny_mono key (fun v s' p => ?_) (fun e s' h => h.elim)
  obtain ⟨av, led', ⟨rfl, rfl⟩, hv, _, _, _, hkeep, hgens, hos⟩ := p
  cases hv
  have hpost : PySem.Challenge.rw_qd0147_01.row.claim.post [ofPy (PyData.list (List.map PyData.int xs))] (WData.bool true) [ofPy (PyData.list (List.map PyData.int xs))] = true := by kc_post
  exact GoodW.toG ⟨.inl ⟨.bool true, .bool true, [], rfl, fun cls => rfl, .bool true, hpost, fun _ => ⟨.nil, fun a h => nomatch h⟩⟩, fun b o e => hkeep b o (fun h => nomatch h) e, hos, hgens.trans hg⟩


end Mine

theorem PySem.Challenge.cw_qd0147_01_holds : PySem.Challenge.rw_qd0147_01.Holds :=
  Mine.law_holds
