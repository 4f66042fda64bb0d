import PyProof.Rows.All
import Wide.All
import OpenK.AllK
import Wide.FinOn
import PySem.Challenge.RW_pb0380_01
open PySem PySem.W PyProof.Rows
set_option Elab.async false
set_option maxRecDepth 100000
set_option maxHeartbeats 8000000
theorem PySem.W.Fast.tw11256389202845128640 : True := trivial
theorem PySem.W.Fast.tw1523951592034530338 : True := trivial
theorem PySem.W.Fast.tw14306399861739506083 : True := trivial
theorem PySem.W.Fast.tw8125751321437004933 : True := trivial
theorem PySem.W.Fast.tw158473206459781734 : True := trivial
theorem PySem.W.Fast.tw6735346659252874535 : True := trivial
theorem PySem.W.Fast.tw2452820758585089575 : True := trivial
theorem PySem.W.Fast.tw701097294156878152 : True := trivial
theorem PySem.W.Fast.tw8555734327229750603 : True := trivial
theorem PySem.W.Fast.tw14979626087600564940 : True := trivial
theorem PySem.W.Fast.tw2166520857738474864 : True := trivial
theorem PySem.W.Fast.tw9339011207650244144 : True := trivial
theorem PySem.W.Fast.tw8075568018651887793 : True := trivial
theorem PySem.W.Fast.tw16706971012570584978 : True := trivial
theorem PySem.W.Fast.tw11009849027208436086 : True := trivial
theorem PySem.W.Fast.tw13193424258596409591 : True := trivial
theorem PySem.W.Fast.tw12758646416354461303 : True := trivial
theorem PySem.W.Fast.tw17988542015724977305 : True := trivial
theorem PySem.W.Fast.tw15301669075922317818 : True := trivial
theorem PySem.W.Fast.tw8275029365193388347 : True := trivial
theorem PySem.W.Fast.tw13215998728584607739 : True := trivial
theorem PySem.W.Fast.tw17887885776237988605 : True := trivial
theorem PySem.W.Fast.tw14570686136959624382 : True := trivial
theorem PySem.W.Fast.tw11886305184250412030 : True := trivial
theorem PySem.W.Fast.tw9537544019596298400 : True := trivial
theorem PySem.W.Fast.tw16413963553889246368 : True := trivial
theorem PySem.W.Fast.tw14224011070414065920 : True := trivial
theorem PySem.W.Fast.tw10015664371746657536 : True := trivial
theorem PySem.W.Fast.tw17069979004554194336 : True := trivial
theorem PySem.W.Fast.tw5832503352825792928 : True := trivial
theorem PySem.W.Fast.tw6891000109920058784 : True := trivial
theorem PySem.W.Fast.tw5976474108018559520 : True := trivial
theorem PySem.W.Fast.tw12825359941727978080 : True := trivial
theorem PySem.W.Fast.tw16328912562034613984 : True := trivial
theorem PySem.W.Fast.tw9674257727999782656 : True := trivial
theorem PySem.W.Fast.tw16817318245366136608 : True := trivial
theorem PySem.W.Fast.tw12177649209318274912 : True := trivial
theorem PySem.W.Fast.tw7483462131439158144 : True := trivial
theorem PySem.W.Fast.tw12177639751122801600 : True := trivial
theorem PySem.W.Fast.tw3118938333895590913 : True := trivial
theorem PySem.W.Fast.tw8459811325457737761 : True := trivial
theorem PySem.W.Fast.tw5386766301290243201 : True := trivial
theorem PySem.W.Fast.tw3764465048917985505 : True := trivial
theorem PySem.W.Fast.tw16741492637210864865 : True := trivial
theorem PySem.W.Fast.tw7670514497116975361 : True := trivial
theorem PySem.W.Fast.tw14821650378409806113 : True := trivial
theorem PySem.W.Fast.tw11543547407058413889 : True := trivial
theorem PySem.W.Fast.tw16180582048198870337 : True := trivial
theorem PySem.W.Fast.tw2315820567201803617 : True := trivial
theorem PySem.W.Fast.tw7405434945208526273 : True := trivial
theorem PySem.W.Fast.tw2334299552400917057 : True := trivial
theorem PySem.W.Fast.tw8603108125212654177 : True := trivial
theorem PySem.W.Fast.tw17071476683966804577 : True := trivial
theorem PySem.W.Fast.tw16916688483869632129 : True := trivial
theorem PySem.W.Fast.tw15079194523842364033 : True := trivial
theorem PySem.W.Fast.tw11317593695737139937 : True := trivial
theorem PySem.W.Fast.tw13236226663087606529 : True := trivial
theorem PySem.W.Fast.tw17943406268862710625 : True := trivial
theorem PySem.W.Fast.tw6792406925840432001 : True := trivial
theorem PySem.W.Fast.tw6132934438814934913 : True := trivial
theorem PySem.W.Fast.tw11825729669827539873 : True := trivial
theorem PySem.W.Fast.tw1414301608579184545 : True := trivial
theorem PySem.W.Fast.tw12726346659333912481 : True := trivial
theorem PySem.W.Fast.tw9577309144901391297 : True := trivial
theorem PySem.W.Fast.tw12660628722211587041 : True := trivial
theorem PySem.W.Fast.tw7581816359482902497 : True := trivial
theorem PySem.W.Fast.tw930746551332336609 : True := trivial
theorem PySem.W.Fast.tw13615603153576403970 : True := trivial
theorem PySem.W.Fast.tw4613930686462287906 : True := trivial
theorem PySem.W.Fast.tw12850107946570832962 : True := trivial
theorem PySem.W.Fast.tw3856783459128436802 : True := trivial
theorem PySem.W.Fast.tw9529234661008812162 : True := trivial
theorem PySem.W.Fast.tw9594665118957945026 : True := trivial
theorem PySem.W.Fast.tw13559156169165276386 : True := trivial
theorem PySem.W.Fast.tw17344680358763864322 : True := trivial
theorem PySem.W.Fast.tw9948023125614773506 : True := trivial
theorem PySem.W.Fast.tw14209830616999942402 : True := trivial
theorem PySem.W.Fast.tw4797165386629745026 : True := trivial
theorem PySem.W.Fast.tw3093977132361051618 : True := trivial
theorem PySem.W.Fast.tw13640514254501968386 : True := trivial
theorem PySem.W.Fast.tw387338674003428930 : True := trivial
theorem PySem.W.Fast.tw3797612339304411714 : True := trivial
theorem PySem.W.Fast.tw4558998842232669794 : True := trivial
theorem PySem.W.Fast.tw6679490504615227074 : True := trivial
theorem PySem.W.Fast.tw8860024209350480642 : True := trivial
theorem PySem.W.Fast.tw2569364866550412066 : True := trivial
theorem PySem.W.Fast.tw8595292554425487202 : True := trivial
theorem PySem.W.Fast.tw11892598404827812706 : True := trivial
theorem PySem.W.Fast.tw14909702598903578594 : True := trivial
theorem PySem.W.Fast.tw2571919107429820419 : True := trivial
theorem PySem.W.Fast.tw15475462885187679331 : True := trivial
theorem PySem.W.Fast.tw17001327861769816259 : True := trivial
theorem PySem.W.Fast.tw11817470609975844035 : True := trivial
theorem PySem.W.Fast.tw13725850141900786883 : True := trivial
theorem PySem.W.Fast.tw13789449189825218787 : True := trivial
theorem PySem.W.Fast.tw7286323032743288035 : True := trivial
theorem PySem.W.Fast.tw6993175162768986339 : True := trivial
theorem PySem.W.Fast.tw11166942722945506595 : True := trivial
theorem PySem.W.Fast.tw15542691292777871779 : True := trivial
theorem PySem.W.Fast.tw3365093317950918147 : True := trivial
theorem PySem.W.Fast.tw11310463157757771331 : True := trivial
theorem PySem.W.Fast.tw17863021456227041891 : True := trivial
theorem PySem.W.Fast.tw6813294653679155843 : True := trivial
theorem PySem.W.Fast.tw136631920214876835 : True := trivial
theorem PySem.W.Fast.tw4978915544186085027 : True := trivial
theorem PySem.W.Fast.tw16366562015402752707 : True := trivial
theorem PySem.W.Fast.tw151948405760981731 : True := trivial
theorem PySem.W.Fast.tw7401281599722004195 : True := trivial
theorem PySem.W.Fast.tw774047393022817027 : True := trivial
theorem PySem.W.Fast.tw10887116778572429059 : True := trivial
theorem PySem.W.Fast.tw10190238754879171395 : True := trivial
theorem PySem.W.Fast.tw3315324234476444515 : True := trivial
theorem PySem.W.Fast.tw14981143343336467331 : True := trivial
theorem PySem.W.Fast.tw2599325451414397859 : True := trivial
theorem PySem.W.Fast.tw505943868828395459 : True := trivial
theorem PySem.W.Fast.tw7232422423428716515 : True := trivial
theorem PySem.W.Fast.tw1638017585896720355 : True := trivial
theorem PySem.W.Fast.tw2968979199505139716 : True := trivial
theorem PySem.W.Fast.tw7499937903120025604 : True := trivial
theorem PySem.W.Fast.tw1258299570235058372 : True := trivial
theorem PySem.W.Fast.tw7299951869573292228 : True := trivial
theorem PySem.W.Fast.tw4039474712603431140 : True := trivial
theorem PySem.W.Fast.tw17532718790514356516 : True := trivial
theorem PySem.W.Fast.tw17274371674624000324 : True := trivial
theorem PySem.W.Fast.tw4525517667737911620 : True := trivial
theorem PySem.W.Fast.tw16180483070735683940 : True := trivial
theorem PySem.W.Fast.tw10007627690174824804 : True := trivial
theorem PySem.W.Fast.tw11740888236361828772 : True := trivial
theorem PySem.W.Fast.tw10042830170769951172 : True := trivial
theorem PySem.W.Fast.tw12734952128020822468 : True := trivial
theorem PySem.W.Fast.tw12392613427281201732 : True := trivial
theorem PySem.W.Fast.tw8656719876789144132 : True := trivial
theorem PySem.W.Fast.tw12233582284571471492 : True := trivial
theorem PySem.W.Fast.tw9736788993784561348 : True := trivial
theorem PySem.W.Fast.tw15168306246750427876 : True := trivial
theorem PySem.W.Fast.tw3386650904741475044 : True := trivial
theorem PySem.W.Fast.tw7269565832213808900 : True := trivial
theorem PySem.W.Fast.tw10317580896714288900 : True := trivial
theorem PySem.W.Fast.tw16752143609539240740 : True := trivial
theorem PySem.W.Fast.tw1763209079605825380 : True := trivial
theorem PySem.W.Fast.tw16350708796919097252 : True := trivial
theorem PySem.W.Fast.tw18310272354389090212 : True := trivial
theorem PySem.W.Fast.tw10424941004445345732 : True := trivial
theorem PySem.W.Fast.tw4224760802259116069 : True := trivial
theorem PySem.W.Fast.tw9136488742655976645 : True := trivial
theorem PySem.W.Fast.tw8703263022893421829 : True := trivial
theorem PySem.W.Fast.tw17672482021469178181 : True := trivial
theorem PySem.W.Fast.tw3442601649717412197 : True := trivial
theorem PySem.W.Fast.tw4275521005467322725 : True := trivial
theorem PySem.W.Fast.tw196644378293983589 : True := trivial
theorem PySem.W.Fast.tw1402947280878808549 : True := trivial
theorem PySem.W.Fast.tw16655555454665732581 : True := trivial
theorem PySem.W.Fast.tw2039238271031011813 : True := trivial
theorem PySem.W.Fast.tw18350330562280901221 : True := trivial
theorem PySem.W.Fast.tw13925586954763233925 : True := trivial
theorem PySem.W.Fast.tw15323854079317868165 : True := trivial
theorem PySem.W.Fast.tw13141144453892091621 : True := trivial
theorem PySem.W.Fast.tw13607416678640721797 : True := trivial
theorem PySem.W.Fast.tw189603312586018693 : True := trivial
theorem PySem.W.Fast.tw6519424955469430661 : True := trivial
theorem PySem.W.Fast.tw5149714755402479525 : True := trivial
theorem PySem.W.Fast.tw11707433790658880453 : True := trivial
theorem PySem.W.Fast.tw16049961110935095269 : True := trivial
theorem PySem.W.Fast.tw2660918139993853925 : True := trivial
theorem PySem.W.Fast.tw14778209649434054790 : True := trivial
theorem PySem.W.Fast.tw2378363196638174374 : True := trivial
theorem PySem.W.Fast.tw12540713548012372134 : True := trivial
theorem PySem.W.Fast.tw12450158673883907302 : True := trivial
theorem PySem.W.Fast.tw8253183596043897158 : True := trivial
theorem PySem.W.Fast.tw17993156020533580102 : True := trivial
theorem PySem.W.Fast.tw3865406201487662470 : True := trivial
theorem PySem.W.Fast.tw14973007898608030118 : True := trivial
theorem PySem.W.Fast.tw17024950926791866790 : True := trivial
theorem PySem.W.Fast.tw14952990662201256454 : True := trivial
theorem PySem.W.Fast.tw7581352650102555174 : True := trivial
theorem PySem.W.Fast.tw4933834842325187142 : True := trivial
theorem PySem.W.Fast.tw9281714027785469542 : True := trivial
theorem PySem.W.Fast.tw8385612375773290118 : True := trivial
theorem PySem.W.Fast.tw16145008321745377990 : True := trivial
theorem PySem.W.Fast.tw4858009861420398278 : True := trivial
theorem PySem.W.Fast.tw17300597898927385350 : True := trivial
theorem PySem.W.Fast.tw3695515675974049574 : True := trivial
theorem PySem.W.Fast.tw5248340912204065574 : True := trivial
theorem PySem.W.Fast.tw764782834095389478 : True := trivial
theorem PySem.W.Fast.tw17842620306162639686 : True := trivial
theorem PySem.W.Fast.tw6607189417530752870 : True := trivial
theorem PySem.W.Fast.tw10058976618658966374 : True := trivial
theorem PySem.W.Fast.tw13169248704851481478 : True := trivial
theorem PySem.W.Fast.tw183835017167291270 : True := trivial
theorem PySem.W.Fast.tw7987952416473584550 : True := trivial
theorem PySem.W.Fast.tw12114495157272644582 : True := trivial
theorem PySem.W.Fast.tw7250012664060256230 : True := trivial
theorem PySem.W.Fast.tw18220123701641295943 : True := trivial
theorem PySem.W.Fast.tw16979880578912567463 : True := trivial
theorem PySem.W.Fast.tw16643706677886111943 : True := trivial
theorem PySem.W.Fast.tw11588390666370768167 : True := trivial
theorem PySem.W.Fast.tw6550987210724342151 : True := trivial
theorem PySem.W.Fast.tw11682084944484805031 : True := trivial
theorem PySem.W.Fast.tw11108263761283441063 : True := trivial
theorem PySem.W.Fast.tw1355338860687761863 : True := trivial
theorem PySem.W.Fast.tw4319705520415482375 : True := trivial
theorem PySem.W.Fast.tw9862997608875712007 : True := trivial
theorem PySem.W.Fast.tw15490439104401381959 : True := trivial
theorem PySem.W.Fast.tw4090926877573551719 : True := trivial
theorem PySem.W.Fast.tw15980859228951719591 : True := trivial
theorem PySem.W.Fast.tw13252181687094117063 : True := trivial
theorem PySem.W.Fast.tw8376441433122354887 : True := trivial
theorem PySem.W.Fast.tw15900120412870309639 : True := trivial
theorem PySem.W.Fast.tw15894407043143930727 : True := trivial
theorem PySem.W.Fast.tw11270796479367742343 : True := trivial
theorem PySem.W.Fast.tw14934708107589980039 : True := trivial
theorem PySem.W.Fast.tw17230556039016184743 : True := trivial
theorem PySem.W.Fast.tw10073347824450446311 : True := trivial
theorem PySem.W.Fast.tw9794667896261083176 : True := trivial
theorem PySem.W.Fast.tw5770868932273138760 : True := trivial
theorem PySem.W.Fast.tw10314498396905981064 : True := trivial
theorem PySem.W.Fast.tw2422670821966735624 : True := trivial
theorem PySem.W.Fast.tw15423634916342008072 : True := trivial
theorem PySem.W.Fast.tw5268983451555188008 : True := trivial
theorem PySem.W.Fast.tw11495947367809530248 : True := trivial
theorem PySem.W.Fast.tw13900631225919944168 : True := trivial
theorem PySem.W.Fast.tw16437185098154296904 : True := trivial
theorem PySem.W.Fast.tw18350638575300117064 : True := trivial
theorem PySem.W.Fast.tw11767421526060770920 : True := trivial
theorem PySem.W.Fast.tw3470799630455053000 : True := trivial
theorem PySem.W.Fast.tw16223305294053301992 : True := trivial
theorem PySem.W.Fast.tw4658958612460137192 : True := trivial
theorem PySem.W.Fast.tw6291368078380397288 : True := trivial
theorem PySem.W.Fast.tw6434138532213402376 : True := trivial
theorem PySem.W.Fast.tw17815586953681464072 : True := trivial
theorem PySem.W.Fast.tw5882768191206486792 : True := trivial
theorem PySem.W.Fast.tw5200128776193632040 : True := trivial
theorem PySem.W.Fast.tw16697116713213952808 : True := trivial
theorem PySem.W.Fast.tw7112787868492120936 : True := trivial
theorem PySem.W.Fast.tw3880421473898291048 : True := trivial
theorem PySem.W.Fast.tw18101931140130867144 : True := trivial
theorem PySem.W.Fast.tw14386061602966655976 : True := trivial
theorem PySem.W.Fast.tw14108194823987119177 : True := trivial
theorem PySem.W.Fast.tw7788680626742099145 : True := trivial
theorem PySem.W.Fast.tw14837249469386935497 : True := trivial
theorem PySem.W.Fast.tw10938465397075749097 : True := trivial
theorem PySem.W.Fast.tw1333364371103165705 : True := trivial
theorem PySem.W.Fast.tw17000155066101142889 : True := trivial
theorem PySem.W.Fast.tw12981051755390344553 : True := trivial
theorem PySem.W.Fast.tw8424611434330503625 : True := trivial
theorem PySem.W.Fast.tw3039592710220408265 : True := trivial
theorem PySem.W.Fast.tw2001226814458364393 : True := trivial
theorem PySem.W.Fast.tw16432479971616331241 : True := trivial
theorem PySem.W.Fast.tw14907048974825807369 : True := trivial
theorem PySem.W.Fast.tw14834023430324568649 : True := trivial
theorem PySem.W.Fast.tw5068434257544371817 : True := trivial
theorem PySem.W.Fast.tw11036193050239951465 : True := trivial
theorem PySem.W.Fast.tw1210750091971509897 : True := trivial
theorem PySem.W.Fast.tw2902314222560053993 : True := trivial
theorem PySem.W.Fast.tw12172078356533094185 : True := trivial
theorem PySem.W.Fast.tw3976722010076183465 : True := trivial
theorem PySem.W.Fast.tw8796240567053077481 : True := trivial
theorem PySem.W.Fast.tw9626621113073979434 : True := trivial
theorem PySem.W.Fast.tw8172093975534723114 : True := trivial
theorem PySem.W.Fast.tw14311459727803291754 : True := trivial
theorem PySem.W.Fast.tw7082770336023389322 : True := trivial
theorem PySem.W.Fast.tw1320183511955256522 : True := trivial
theorem PySem.W.Fast.tw3094477031063562474 : True := trivial
theorem PySem.W.Fast.tw1536587703002861866 : True := trivial
theorem PySem.W.Fast.tw1886563365779066154 : True := trivial
theorem PySem.W.Fast.tw1102190903223815498 : True := trivial
theorem PySem.W.Fast.tw4921902886906138986 : True := trivial
theorem PySem.W.Fast.tw1615719349143574890 : True := trivial
theorem PySem.W.Fast.tw5349121933718820234 : True := trivial
theorem PySem.W.Fast.tw15034313371233782410 : True := trivial
theorem PySem.W.Fast.tw1377046205977697930 : True := trivial
theorem PySem.W.Fast.tw1379578315556383370 : True := trivial
theorem PySem.W.Fast.tw7074795694173733578 : True := trivial
theorem PySem.W.Fast.tw3768068617246420682 : True := trivial
theorem PySem.W.Fast.tw14333388528381170442 : True := trivial
theorem PySem.W.Fast.tw9800571698397750058 : True := trivial
theorem PySem.W.Fast.tw13314330512976039754 : True := trivial
theorem PySem.W.Fast.tw8488268690174267210 : True := trivial
theorem PySem.W.Fast.tw5228443966233409354 : True := trivial
theorem PySem.W.Fast.tw9501820088010722379 : True := trivial
theorem PySem.W.Fast.tw18260038339965228139 : True := trivial
theorem PySem.W.Fast.tw10500077913531017323 : True := trivial
theorem PySem.W.Fast.tw15263041282635125899 : True := trivial
theorem PySem.W.Fast.tw14185684948912167051 : True := trivial
theorem PySem.W.Fast.tw6135381517318000843 : True := trivial
theorem PySem.W.Fast.tw16966814322356759819 : True := trivial
theorem PySem.W.Fast.tw17532440430192770315 : True := trivial
theorem PySem.W.Fast.tw4109823476700235019 : True := trivial
theorem PySem.W.Fast.tw383695940523520267 : True := trivial
theorem PySem.W.Fast.tw5450187663091677483 : True := trivial
theorem PySem.W.Fast.tw12813236842856870187 : True := trivial
theorem PySem.W.Fast.tw932993149863042379 : True := trivial
theorem PySem.W.Fast.tw11013792430000457035 : True := trivial
theorem PySem.W.Fast.tw8032284361305108907 : True := trivial
theorem PySem.W.Fast.tw5565278806992967083 : True := trivial
theorem PySem.W.Fast.tw4936483359421988267 : True := trivial
theorem PySem.W.Fast.tw13002492023102617099 : True := trivial
theorem PySem.W.Fast.tw12095823642532355627 : True := trivial
theorem PySem.W.Fast.tw6148621092414575339 : True := trivial
theorem PySem.W.Fast.tw3327986453032591115 : True := trivial
theorem PySem.W.Fast.tw3362959441861295915 : True := trivial
theorem PySem.W.Fast.tw5823794197072137003 : True := trivial
theorem PySem.W.Fast.tw13160144027095335755 : True := trivial
theorem PySem.W.Fast.tw18163462532019968843 : True := trivial
theorem PySem.W.Fast.tw12731603968600162155 : True := trivial
theorem PySem.W.Fast.tw12359285113459375979 : True := trivial
theorem PySem.W.Fast.tw7733015712792483723 : True := trivial
theorem PySem.W.Fast.tw13580328829973926956 : True := trivial
theorem PySem.W.Fast.tw1184552218554016812 : True := trivial
theorem PySem.W.Fast.tw16189536214700107852 : True := trivial
theorem PySem.W.Fast.tw1267870562809915468 : True := trivial
theorem PySem.W.Fast.tw15468230090516036684 : True := trivial
theorem PySem.W.Fast.tw4980102563643897964 : True := trivial
theorem PySem.W.Fast.tw4278798014809849964 : True := trivial
theorem PySem.W.Fast.tw4071324889030633612 : True := trivial
theorem PySem.W.Fast.tw9951705424602377420 : True := trivial
theorem PySem.W.Fast.tw11161088081135249708 : True := trivial
theorem PySem.W.Fast.tw4636218855388986860 : True := trivial
theorem PySem.W.Fast.tw17045043414572947948 : True := trivial
theorem PySem.W.Fast.tw13678640442995254988 : True := trivial
theorem PySem.W.Fast.tw5925582254088234700 : True := trivial
theorem PySem.W.Fast.tw2134368852220247820 : True := trivial
theorem PySem.W.Fast.tw1156252341971683116 : True := trivial
theorem PySem.W.Fast.tw6434265647005701932 : True := trivial
theorem PySem.W.Fast.tw4775785305629353868 : True := trivial
theorem PySem.W.Fast.tw4879560196417449868 : True := trivial
theorem PySem.W.Fast.tw2354101950205528012 : True := trivial
theorem PySem.W.Fast.tw8642067239939848140 : True := trivial
theorem PySem.W.Fast.tw7229665172594901996 : True := trivial
theorem PySem.W.Fast.tw10833955939284561965 : True := trivial
theorem PySem.W.Fast.tw11306939235166856333 : True := trivial
theorem PySem.W.Fast.tw4042386549635913901 : True := trivial
theorem PySem.W.Fast.tw3952652319720093869 : True := trivial
theorem PySem.W.Fast.tw1617757218408452269 : True := trivial
theorem PySem.W.Fast.tw39160002569200845 : True := trivial
theorem PySem.W.Fast.tw5076957145309523181 : True := trivial
theorem PySem.W.Fast.tw10719484529398299949 : True := trivial
theorem PySem.W.Fast.tw13581749221687468397 : True := trivial
theorem PySem.W.Fast.tw1772237422875290029 : True := trivial
theorem PySem.W.Fast.tw17101871299007795629 : True := trivial
theorem PySem.W.Fast.tw16374537267813192141 : True := trivial
theorem PySem.W.Fast.tw12371321757623732685 : True := trivial
theorem PySem.W.Fast.tw12821735335276811757 : True := trivial
theorem PySem.W.Fast.tw4679858250743294509 : True := trivial
theorem PySem.W.Fast.tw17846936440860909165 : True := trivial
theorem PySem.W.Fast.tw608726401823008365 : True := trivial
theorem PySem.W.Fast.tw13036272033356848781 : True := trivial
theorem PySem.W.Fast.tw3282434896037501709 : True := trivial
theorem PySem.W.Fast.tw117213463901210413 : True := trivial
theorem PySem.W.Fast.tw15766043655864335149 : True := trivial
theorem PySem.W.Fast.tw9265879793445154701 : True := trivial
theorem PySem.W.Fast.tw9305782018832362445 : True := trivial
theorem PySem.W.Fast.tw14544052848187043789 : True := trivial
theorem PySem.W.Fast.tw17828083071136270317 : True := trivial
theorem PySem.W.Fast.tw18340240734955500558 : True := trivial
theorem PySem.W.Fast.tw14043711374191979534 : True := trivial
theorem PySem.W.Fast.tw8708707556590381134 : True := trivial
theorem PySem.W.Fast.tw148260917463534702 : True := trivial
theorem PySem.W.Fast.tw16292439048969090190 : True := trivial
theorem PySem.W.Fast.tw724751600484774222 : True := trivial
theorem PySem.W.Fast.tw1189734492583310 : True := trivial
theorem PySem.W.Fast.tw13180171748994924942 : True := trivial
theorem PySem.W.Fast.tw11566699232636054958 : True := trivial
theorem PySem.W.Fast.tw17679261114430710190 : True := trivial
theorem PySem.W.Fast.tw8579058602437062094 : True := trivial
theorem PySem.W.Fast.tw7276740287692124622 : True := trivial
theorem PySem.W.Fast.tw17026713947507217902 : True := trivial
theorem PySem.W.Fast.tw4318056027017086478 : True := trivial
theorem PySem.W.Fast.tw15919542637913265678 : True := trivial
theorem PySem.W.Fast.tw9458956999447867950 : True := trivial
theorem PySem.W.Fast.tw5923252988546675246 : True := trivial
theorem PySem.W.Fast.tw389472881494512206 : True := trivial
theorem PySem.W.Fast.tw6125931036764729998 : True := trivial
theorem PySem.W.Fast.tw900395245841561262 : True := trivial
theorem PySem.W.Fast.tw16874561944515371726 : True := trivial
theorem PySem.W.Fast.tw2401699919119007470 : True := trivial
theorem PySem.W.Fast.tw16644606511662114574 : True := trivial
theorem PySem.W.Fast.tw5706481520468235054 : True := trivial
theorem PySem.W.Fast.tw17730448691065144110 : True := trivial
theorem PySem.W.Fast.tw16018607276475445134 : True := trivial
theorem PySem.W.Fast.tw441327347791068078 : True := trivial
theorem PySem.W.Fast.tw11985326045990495214 : True := trivial
theorem PySem.W.Fast.tw14766643958189025262 : True := trivial
theorem PySem.W.Fast.tw15823609455315575823 : True := trivial
theorem PySem.W.Fast.tw2711585505577850959 : True := trivial
theorem PySem.W.Fast.tw17429684086410527887 : True := trivial
theorem PySem.W.Fast.tw2948108419219029167 : True := trivial
theorem PySem.W.Fast.tw6952355047532471503 : True := trivial
theorem PySem.W.Fast.tw9206804518496725263 : True := trivial
theorem PySem.W.Fast.tw9575731206691268911 : True := trivial
theorem PySem.W.Fast.tw13721567128424951087 : True := trivial
theorem PySem.W.Fast.tw558745408833754511 : True := trivial
theorem PySem.W.Fast.tw4434333111790514575 : True := trivial
theorem PySem.W.Fast.tw5758256569797452207 : True := trivial
theorem PySem.W.Fast.tw1620339239838986703 : True := trivial
theorem PySem.W.Fast.tw16758808235637498351 : True := trivial
theorem PySem.W.Fast.tw11957962974430299695 : True := trivial
theorem PySem.W.Fast.tw11853533878840232495 : True := trivial
theorem PySem.W.Fast.tw6589095468515690095 : True := trivial
theorem PySem.W.Fast.tw3209381107111851631 : True := trivial
theorem PySem.W.Fast.tw17164873540382356111 : True := trivial
theorem PySem.W.Fast.tw15560500314895047343 : True := trivial
theorem PySem.W.Fast.tw12488000419048109807 : True := trivial
theorem PySem.W.Fast.tw13526986893379352335 : True := trivial
theorem PySem.W.Fast.tw11462045893675790159 : True := trivial
theorem PySem.W.Fast.tw14214133299417103183 : True := trivial
theorem PySem.W.Fast.tw13871001218405608335 : True := trivial
theorem PySem.W.Fast.tw6967401301877209104 : True := trivial
theorem PySem.W.Fast.tw9759809726879904816 : True := trivial
theorem PySem.W.Fast.tw10010936943081839664 : True := trivial
theorem PySem.W.Fast.tw2078703811421203504 : True := trivial
theorem PySem.W.Fast.tw8946543629884556368 : True := trivial
theorem PySem.W.Fast.tw1869930749605803152 : True := trivial
theorem PySem.W.Fast.tw6834602518627153040 : True := trivial
theorem PySem.W.Fast.tw11707371222683016368 : True := trivial
theorem PySem.W.Fast.tw15560853006256673968 : True := trivial
theorem PySem.W.Fast.tw16417370028952169744 : True := trivial
theorem PySem.W.Fast.tw1574873078441994576 : True := trivial
theorem PySem.W.Fast.tw3698559305507148144 : True := trivial
theorem PySem.W.Fast.tw2478078296215019888 : True := trivial
theorem PySem.W.Fast.tw17803129079492736432 : True := trivial
theorem PySem.W.Fast.tw347637069881736656 : True := trivial
theorem PySem.W.Fast.tw6179359751918216688 : True := trivial
theorem PySem.W.Fast.tw4575980220486274672 : True := trivial
theorem PySem.W.Fast.tw535072334866317008 : True := trivial
theorem PySem.W.Fast.tw13987355940573415152 : True := trivial
theorem PySem.W.Fast.tw2719445374943340272 : True := trivial
theorem PySem.W.Fast.tw5135500740108067664 : True := trivial
theorem PySem.W.Fast.tw15207642765257501584 : True := trivial
theorem PySem.W.Fast.tw7081425507203772304 : True := trivial
theorem PySem.W.Fast.tw10948738476641704880 : True := trivial
theorem PySem.W.Fast.tw15808557625122938864 : True := trivial
theorem PySem.W.Fast.tw17827458813498177553 : True := trivial
theorem PySem.W.Fast.tw7009043117176579089 : True := trivial
theorem PySem.W.Fast.tw15112985482279097393 : True := trivial
theorem PySem.W.Fast.tw10670733350059645105 : True := trivial
theorem PySem.W.Fast.tw7275051467321613617 : True := trivial
theorem PySem.W.Fast.tw11790162104776037713 : True := trivial
theorem PySem.W.Fast.tw8649964590619651473 : True := trivial
theorem PySem.W.Fast.tw13254397897704925713 : True := trivial
theorem PySem.W.Fast.tw11625766737575182897 : True := trivial
theorem PySem.W.Fast.tw9821368406582625841 : True := trivial
theorem PySem.W.Fast.tw14285029430470858289 : True := trivial
theorem PySem.W.Fast.tw11796506867022685745 : True := trivial
theorem PySem.W.Fast.tw7057405563618977329 : True := trivial
theorem PySem.W.Fast.tw6380047634161181297 : True := trivial
theorem PySem.W.Fast.tw3740020263889925745 : True := trivial
theorem PySem.W.Fast.tw8047484207015712433 : True := trivial
theorem PySem.W.Fast.tw17018628822417861297 : True := trivial
theorem PySem.W.Fast.tw7618406622816332465 : True := trivial
theorem PySem.W.Fast.tw12456492676567594705 : True := trivial
theorem PySem.W.Fast.tw7496433998918960881 : True := trivial
theorem PySem.W.Fast.tw1092655722715705105 : True := trivial
theorem PySem.W.Fast.tw11863081143760314161 : True := trivial
theorem PySem.W.Fast.tw16176465441171805009 : True := trivial
theorem PySem.W.Fast.tw8017206721242287953 : True := trivial
theorem PySem.W.Fast.tw17057272898397164401 : True := trivial
theorem PySem.W.Fast.tw15902184279288820625 : True := trivial
theorem PySem.W.Fast.tw11445135464325071761 : True := trivial
theorem PySem.W.Fast.tw7344376507651311505 : True := trivial
theorem PySem.W.Fast.tw10939839348159177617 : True := trivial
theorem PySem.W.Fast.tw12898947447245864913 : True := trivial
theorem PySem.W.Fast.tw10487160056961263569 : True := trivial
theorem PySem.W.Fast.tw2011108890870493169 : True := trivial
theorem PySem.W.Fast.tw17517737089405305841 : True := trivial
theorem PySem.W.Fast.tw18410474027866654770 : True := trivial
theorem PySem.W.Fast.tw17719373434677690450 : True := trivial
theorem PySem.W.Fast.tw7140130562030077042 : True := trivial
theorem PySem.W.Fast.tw16792545251062261874 : True := trivial
theorem PySem.W.Fast.tw10819683100428557426 : True := trivial
theorem PySem.W.Fast.tw6929956602132211858 : True := trivial
theorem PySem.W.Fast.tw16339471991904476338 : True := trivial
theorem PySem.W.Fast.tw16349216596472256690 : True := trivial
theorem PySem.W.Fast.tw5952267759425050802 : True := trivial
theorem PySem.W.Fast.tw17138261911001417010 : True := trivial
theorem PySem.W.Fast.tw10029231156530900338 : True := trivial
theorem PySem.W.Fast.tw2951486255847992690 : True := trivial
theorem PySem.W.Fast.tw16942194440817826258 : True := trivial
theorem PySem.W.Fast.tw6714822604882049554 : True := trivial
theorem PySem.W.Fast.tw9564595351457756722 : True := trivial
theorem PySem.W.Fast.tw16414604833108395602 : True := trivial
theorem PySem.W.Fast.tw951843321253372498 : True := trivial
theorem PySem.W.Fast.tw14884601019740666482 : True := trivial
theorem PySem.W.Fast.tw16494616584097029746 : True := trivial
theorem PySem.W.Fast.tw18126140380344562322 : True := trivial
theorem PySem.W.Fast.tw16593013826814733010 : True := trivial
theorem PySem.W.Fast.tw9931943479562821362 : True := trivial
theorem PySem.W.Fast.tw15315713394281565010 : True := trivial
theorem PySem.W.Fast.tw16873187988247708562 : True := trivial
theorem PySem.W.Fast.tw16645262185327669138 : True := trivial
theorem PySem.W.Fast.tw4011157648589011858 : True := trivial
theorem PySem.W.Fast.tw4407734736301137906 : True := trivial
theorem PySem.W.Fast.tw6662432510661729299 : True := trivial
theorem PySem.W.Fast.tw5518745428033880147 : True := trivial
theorem PySem.W.Fast.tw1708024556718086227 : True := trivial
theorem PySem.W.Fast.tw3152983702415266003 : True := trivial
theorem PySem.W.Fast.tw10919533547850550483 : True := trivial
theorem PySem.W.Fast.tw6090905460779295987 : True := trivial
theorem PySem.W.Fast.tw10758392820592806131 : True := trivial
theorem PySem.W.Fast.tw4299136966843209011 : True := trivial
theorem PySem.W.Fast.tw15066959818950650227 : True := trivial
theorem PySem.W.Fast.tw10352308551163946355 : True := trivial
theorem PySem.W.Fast.tw16406328271908756883 : True := trivial
theorem PySem.W.Fast.tw10942035263794033107 : True := trivial
theorem PySem.W.Fast.tw10227693086864044499 : True := trivial
theorem PySem.W.Fast.tw3766158894648301139 : True := trivial
theorem PySem.W.Fast.tw9787396351842916947 : True := trivial
theorem PySem.W.Fast.tw5732905514179830355 : True := trivial
theorem PySem.W.Fast.tw9376109419431680627 : True := trivial
theorem PySem.W.Fast.tw4966893808263662355 : True := trivial
theorem PySem.W.Fast.tw15562837088269578035 : True := trivial
theorem PySem.W.Fast.tw15202239659555905331 : True := trivial
theorem PySem.W.Fast.tw2718901123391026995 : True := trivial
theorem PySem.W.Fast.tw13251646731365433171 : True := trivial
theorem PySem.W.Fast.tw14874922208557711187 : True := trivial
theorem PySem.W.Fast.tw4681523508651956083 : True := trivial
theorem PySem.W.Fast.tw313226197891681235 : True := trivial
theorem PySem.W.Fast.tw15450981722951097364 : True := trivial
theorem PySem.W.Fast.tw607167704815816724 : True := trivial
theorem PySem.W.Fast.tw15806122291839087668 : True := trivial
theorem PySem.W.Fast.tw17244072584429378644 : True := trivial
theorem PySem.W.Fast.tw4075660801711882420 : True := trivial
theorem PySem.W.Fast.tw16942504070071679284 : True := trivial
theorem PySem.W.Fast.tw11636919720809706868 : True := trivial
theorem PySem.W.Fast.tw6909570525239066004 : True := trivial
theorem PySem.W.Fast.tw7503421922109321716 : True := trivial
theorem PySem.W.Fast.tw9300948228871686676 : True := trivial
theorem PySem.W.Fast.tw15480198773659482676 : True := trivial
theorem PySem.W.Fast.tw8537084889766193716 : True := trivial
theorem PySem.W.Fast.tw7094674258960923220 : True := trivial
theorem PySem.W.Fast.tw1041845030581493396 : True := trivial
theorem PySem.W.Fast.tw2674190319118857908 : True := trivial
theorem PySem.W.Fast.tw2283851925072248500 : True := trivial
theorem PySem.W.Fast.tw11420187438672877268 : True := trivial
theorem PySem.W.Fast.tw9315938663221665524 : True := trivial
theorem PySem.W.Fast.tw17730428716208468724 : True := trivial
theorem PySem.W.Fast.tw8430678208038309684 : True := trivial
theorem PySem.W.Fast.tw15742981410569661332 : True := trivial
theorem PySem.W.Fast.tw921073385446354868 : True := trivial
theorem PySem.W.Fast.tw6363645014702824404 : True := trivial
theorem PySem.W.Fast.tw7619357645376055252 : True := trivial
theorem PySem.W.Fast.tw16413264400604254196 : True := trivial
theorem PySem.W.Fast.tw13642483538084851733 : True := trivial
theorem PySem.W.Fast.tw14530364306720264245 : True := trivial
theorem PySem.W.Fast.tw8206430501311747189 : True := trivial
theorem PySem.W.Fast.tw282004115355043989 : True := trivial
theorem PySem.W.Fast.tw18163708392712065173 : True := trivial
theorem PySem.W.Fast.tw16648231224745350325 : True := trivial
theorem PySem.W.Fast.tw12290603225136948437 : True := trivial
theorem PySem.W.Fast.tw4527066259768149269 : True := trivial
theorem PySem.W.Fast.tw8753696776887207221 : True := trivial
theorem PySem.W.Fast.tw12809422525583811893 : True := trivial
theorem PySem.W.Fast.tw10528696920762540405 : True := trivial
theorem PySem.W.Fast.tw14553827428707814869 : True := trivial
theorem PySem.W.Fast.tw12237943961548833269 : True := trivial
theorem PySem.W.Fast.tw392140993173905013 : True := trivial
theorem PySem.W.Fast.tw11964429278604863157 : True := trivial
theorem PySem.W.Fast.tw17537794083376710389 : True := trivial
theorem PySem.W.Fast.tw13505292571300825877 : True := trivial
theorem PySem.W.Fast.tw17899373020297197333 : True := trivial
theorem PySem.W.Fast.tw725871291056497461 : True := trivial
theorem PySem.W.Fast.tw8450942572126056277 : True := trivial
theorem PySem.W.Fast.tw1218959903707654005 : True := trivial
theorem PySem.W.Fast.tw12635297910168745909 : True := trivial
theorem PySem.W.Fast.tw14126943448341045398 : True := trivial
theorem PySem.W.Fast.tw17954471519018878134 : True := trivial
theorem PySem.W.Fast.tw3619232141914619222 : True := trivial
theorem PySem.W.Fast.tw10996506086634736982 : True := trivial
theorem PySem.W.Fast.tw2627984346626558326 : True := trivial
theorem PySem.W.Fast.tw3142773779024712118 : True := trivial
theorem PySem.W.Fast.tw7573151900890175926 : True := trivial
theorem PySem.W.Fast.tw14023627001141898710 : True := trivial
theorem PySem.W.Fast.tw1401972060568974870 : True := trivial
theorem PySem.W.Fast.tw11939915149646268982 : True := trivial
theorem PySem.W.Fast.tw12635813782599140982 : True := trivial
theorem PySem.W.Fast.tw17015423121036801654 : True := trivial
theorem PySem.W.Fast.tw14420389602138693270 : True := trivial
theorem PySem.W.Fast.tw2408619945344806742 : True := trivial
theorem PySem.W.Fast.tw9082586571710850966 : True := trivial
theorem PySem.W.Fast.tw9467589175468403638 : True := trivial
theorem PySem.W.Fast.tw10508251915553800215 : True := trivial
theorem PySem.W.Fast.tw13241461904039861399 : True := trivial
theorem PySem.W.Fast.tw2670528217467546775 : True := trivial
theorem PySem.W.Fast.tw8989982439271903415 : True := trivial
theorem PySem.W.Fast.tw1829445100760108279 : True := trivial
theorem PySem.W.Fast.tw15663404670287596823 : True := trivial
theorem PySem.W.Fast.tw8902219603052485911 : True := trivial
theorem PySem.W.Fast.tw13903129631018457399 : True := trivial
theorem PySem.W.Fast.tw17888162413812561239 : True := trivial
theorem PySem.W.Fast.tw10308316962582663543 : True := trivial
theorem PySem.W.Fast.tw9219426015542480343 : True := trivial
theorem PySem.W.Fast.tw7585139358526817783 : True := trivial
theorem PySem.W.Fast.tw8800560270773162519 : True := trivial
theorem PySem.W.Fast.tw15880737140895825463 : True := trivial
theorem PySem.W.Fast.tw12945451867199242903 : True := trivial
theorem PySem.W.Fast.tw14433975572909055671 : True := trivial
theorem PySem.W.Fast.tw1419416864934026935 : True := trivial
theorem PySem.W.Fast.tw3325841961599345399 : True := trivial
theorem PySem.W.Fast.tw7098571738820278039 : True := trivial
theorem PySem.W.Fast.tw17520869792638436183 : True := trivial
theorem PySem.W.Fast.tw13145125596335152023 : True := trivial
theorem PySem.W.Fast.tw18011898689540126615 : True := trivial
theorem PySem.W.Fast.tw14097648870716263351 : True := trivial
theorem PySem.W.Fast.tw878741703135273975 : True := trivial
theorem PySem.W.Fast.tw3891137856419664920 : True := trivial
theorem PySem.W.Fast.tw6004533443673955352 : True := trivial
theorem PySem.W.Fast.tw662354867322794072 : True := trivial
theorem PySem.W.Fast.tw2506853364499732696 : True := trivial
theorem PySem.W.Fast.tw14168537005229113720 : True := trivial
theorem PySem.W.Fast.tw10045867985992453528 : True := trivial
theorem PySem.W.Fast.tw17765544955259793912 : True := trivial
theorem PySem.W.Fast.tw6059929106960060952 : True := trivial
theorem PySem.W.Fast.tw8620020772036689432 : True := trivial
theorem PySem.W.Fast.tw7198390536060210744 : True := trivial
theorem PySem.W.Fast.tw9236875199018929784 : True := trivial
theorem PySem.W.Fast.tw13016732220969518872 : True := trivial
theorem PySem.W.Fast.tw8400853705098224536 : True := trivial
theorem PySem.W.Fast.tw18273839248471157720 : True := trivial
theorem PySem.W.Fast.tw1393629259489396696 : True := trivial
theorem PySem.W.Fast.tw16947794391021106201 : True := trivial
theorem PySem.W.Fast.tw13776390136698705113 : True := trivial
theorem PySem.W.Fast.tw16039550372008468697 : True := trivial
theorem PySem.W.Fast.tw6683783046931543321 : True := trivial
theorem PySem.W.Fast.tw13809362725867891129 : True := trivial
theorem PySem.W.Fast.tw10650810973499830745 : True := trivial
theorem PySem.W.Fast.tw9407582987413476825 : True := trivial
theorem PySem.W.Fast.tw17280976486791472633 : True := trivial
theorem PySem.W.Fast.tw2759451637364818457 : True := trivial
theorem PySem.W.Fast.tw3427515755752030745 : True := trivial
theorem PySem.W.Fast.tw15542503528162795033 : True := trivial
theorem PySem.W.Fast.tw6580340599500149305 : True := trivial
theorem PySem.W.Fast.tw15007238320947547705 : True := trivial
theorem PySem.W.Fast.tw8719427161674164953 : True := trivial
theorem PySem.W.Fast.tw6245536207120538393 : True := trivial
theorem PySem.W.Fast.tw16531745337717519161 : True := trivial
theorem PySem.W.Fast.tw12647630874787467225 : True := trivial
theorem PySem.W.Fast.tw2460228577881660442 : True := trivial
theorem PySem.W.Fast.tw6789855027759293466 : True := trivial
theorem PySem.W.Fast.tw13551572312386263098 : True := trivial
theorem PySem.W.Fast.tw7783732958741208154 : True := trivial
theorem PySem.W.Fast.tw11518781747449614426 : True := trivial
theorem PySem.W.Fast.tw682011567655089306 : True := trivial
theorem PySem.W.Fast.tw9908251947323293946 : True := trivial
theorem PySem.W.Fast.tw12832477231654346042 : True := trivial
theorem PySem.W.Fast.tw6012508502120743258 : True := trivial
theorem PySem.W.Fast.tw4824431525194463578 : True := trivial
theorem PySem.W.Fast.tw5978237884098788730 : True := trivial
theorem PySem.W.Fast.tw3820604794100220378 : True := trivial
theorem PySem.W.Fast.tw8098380416015320538 : True := trivial
theorem PySem.W.Fast.tw10706342367453228570 : True := trivial
theorem PySem.W.Fast.tw3267979357774110234 : True := trivial
theorem PySem.W.Fast.tw15059462757989803610 : True := trivial
theorem PySem.W.Fast.tw15157221202141545114 : True := trivial
theorem PySem.W.Fast.tw3105397867545767578 : True := trivial
theorem PySem.W.Fast.tw13471461260053382970 : True := trivial
theorem PySem.W.Fast.tw17954736447514056666 : True := trivial
theorem PySem.W.Fast.tw7392212959928792091 : True := trivial
theorem PySem.W.Fast.tw3577408171920636059 : True := trivial
theorem PySem.W.Fast.tw4904739604578439355 : True := trivial
theorem PySem.W.Fast.tw5646442142991981755 : True := trivial
theorem PySem.W.Fast.tw3436264866546951355 : True := trivial
theorem PySem.W.Fast.tw17497748084772794779 : True := trivial
theorem PySem.W.Fast.tw16548257151911338427 : True := trivial
theorem PySem.W.Fast.tw9763268239775435451 : True := trivial
theorem PySem.W.Fast.tw17394056326795013819 : True := trivial
theorem PySem.W.Fast.tw10885399304501877467 : True := trivial
theorem PySem.W.Fast.tw2664551874359636763 : True := trivial
theorem PySem.W.Fast.tw16865151637890581275 : True := trivial
theorem PySem.W.Fast.tw3953757239420563355 : True := trivial
theorem PySem.W.Fast.tw6213141578215901147 : True := trivial
theorem PySem.W.Fast.tw13833065179229638619 : True := trivial
theorem PySem.W.Fast.tw10379131730601215995 : True := trivial
theorem PySem.W.Fast.tw5720267713326709755 : True := trivial
theorem PySem.W.Fast.tw5357591511691535388 : True := trivial
theorem PySem.W.Fast.tw10181792811725400092 : True := trivial
theorem PySem.W.Fast.tw14427280190107063356 : True := trivial
theorem PySem.W.Fast.tw3504847659760329788 : True := trivial
theorem PySem.W.Fast.tw2370070277545300124 : True := trivial
theorem PySem.W.Fast.tw16846860572762119324 : True := trivial
theorem PySem.W.Fast.tw7365555872484859036 : True := trivial
theorem PySem.W.Fast.tw14323765505736481980 : True := trivial
theorem PySem.W.Fast.tw5701610774189311196 : True := trivial
theorem PySem.W.Fast.tw5345256250457102556 : True := trivial
theorem PySem.W.Fast.tw1706496860858754268 : True := trivial
theorem PySem.W.Fast.tw6214688769961185500 : True := trivial
theorem PySem.W.Fast.tw3560238982266916124 : True := trivial
theorem PySem.W.Fast.tw2447775223705975068 : True := trivial
theorem PySem.W.Fast.tw17853915177807527196 : True := trivial
theorem PySem.W.Fast.tw17100903815162463580 : True := trivial
theorem PySem.W.Fast.tw12659028871203227004 : True := trivial
theorem PySem.W.Fast.tw6426273055680023932 : True := trivial
theorem PySem.W.Fast.tw14210447440969649564 : True := trivial
theorem PySem.W.Fast.tw10205541121877940668 : True := trivial
theorem PySem.W.Fast.tw5853609219237828028 : True := trivial
theorem PySem.W.Fast.tw15199281503961881116 : True := trivial
theorem PySem.W.Fast.tw18345786424863182364 : True := trivial
theorem PySem.W.Fast.tw11333186260410459676 : True := trivial
theorem PySem.W.Fast.tw6144853644547557980 : True := trivial
theorem PySem.W.Fast.tw9720828393056574044 : True := trivial
theorem PySem.W.Fast.tw7745614565497352828 : True := trivial
theorem PySem.W.Fast.tw5111356299099525756 : True := trivial
theorem PySem.W.Fast.tw7397068168572129948 : True := trivial
theorem PySem.W.Fast.tw13317431791736044220 : True := trivial
theorem PySem.W.Fast.tw4287028408620065468 : True := trivial
theorem PySem.W.Fast.tw13951257522405164796 : True := trivial
theorem PySem.W.Fast.tw8180830640274347804 : True := trivial
theorem PySem.W.Fast.tw4800724452203346748 : True := trivial
theorem PySem.W.Fast.tw1291980286583624508 : True := trivial
theorem PySem.W.Fast.tw8802822988693486460 : True := trivial
theorem PySem.W.Fast.tw1631149150583789468 : True := trivial
theorem PySem.W.Fast.tw11277413387252134812 : True := trivial
theorem PySem.W.Fast.tw16643379632663270332 : True := trivial
theorem PySem.W.Fast.tw2905824091091238844 : True := trivial
theorem PySem.W.Fast.tw6624491594363574236 : True := trivial
theorem PySem.W.Fast.tw1258717718454355964 : True := trivial
theorem PySem.W.Fast.tw13912434898499826684 : True := trivial
theorem PySem.W.Fast.tw17476080006546285661 : True := trivial
theorem PySem.W.Fast.tw9504726810853072989 : True := trivial
theorem PySem.W.Fast.tw5032809538720368765 : True := trivial
theorem PySem.W.Fast.tw18263319221461684349 : True := trivial
theorem PySem.W.Fast.tw4172830789200971933 : True := trivial
theorem PySem.W.Fast.tw10057510723706494237 : True := trivial
theorem PySem.W.Fast.tw16326889199254633757 : True := trivial
theorem PySem.W.Fast.tw5529568453561195837 : True := trivial
theorem PySem.W.Fast.tw13915792640404377917 : True := trivial
theorem PySem.W.Fast.tw14537914154153760125 : True := trivial
theorem PySem.W.Fast.tw8881496252177385917 : True := trivial
theorem PySem.W.Fast.tw18056578402003937789 : True := trivial
theorem PySem.W.Fast.tw10323183001455561277 : True := trivial
theorem PySem.W.Fast.tw11186114360453789277 : True := trivial
theorem PySem.W.Fast.tw1544652992362985085 : True := trivial
theorem PySem.W.Fast.tw17804436615005485693 : True := trivial
theorem PySem.W.Fast.tw7469732015759309437 : True := trivial
theorem PySem.W.Fast.tw7504490480230193789 : True := trivial
theorem PySem.W.Fast.tw17183712847048597117 : True := trivial
theorem PySem.W.Fast.tw13902233598862641821 : True := trivial
theorem PySem.W.Fast.tw10028428298569065181 : True := trivial
theorem PySem.W.Fast.tw17814930658547583709 : True := trivial
theorem PySem.W.Fast.tw3972328310683599613 : True := trivial
theorem PySem.W.Fast.tw7892128664451923741 : True := trivial
theorem PySem.W.Fast.tw13759679279233594173 : True := trivial
theorem PySem.W.Fast.tw17552769576498331613 : True := trivial
theorem PySem.W.Fast.tw6019396324639902685 : True := trivial
theorem PySem.W.Fast.tw1771862750571323454 : True := trivial
theorem PySem.W.Fast.tw4748654258956052638 : True := trivial
theorem PySem.W.Fast.tw11277716924127702174 : True := trivial
theorem PySem.W.Fast.tw2370425770031549630 : True := trivial
theorem PySem.W.Fast.tw2736616831223182526 : True := trivial
theorem PySem.W.Fast.tw7035115661146626270 : True := trivial
theorem PySem.W.Fast.tw973662469405803806 : True := trivial
theorem PySem.W.Fast.tw3636048126100218174 : True := trivial
theorem PySem.W.Fast.tw325292655437039998 : True := trivial
theorem PySem.W.Fast.tw17964007177503468958 : True := trivial
theorem PySem.W.Fast.tw15736541856241217950 : True := trivial
theorem PySem.W.Fast.tw6380782515089751550 : True := trivial
theorem PySem.W.Fast.tw460243522976405022 : True := trivial
theorem PySem.W.Fast.tw16869277618539721502 : True := trivial
theorem PySem.W.Fast.tw11130039905162102590 : True := trivial
theorem PySem.W.Fast.tw8732485361984058174 : True := trivial
theorem PySem.W.Fast.tw1107438419126420414 : True := trivial
theorem PySem.W.Fast.tw1962928258387122110 : True := trivial
theorem PySem.W.Fast.tw9787463984185863102 : True := trivial
theorem PySem.W.Fast.tw11328821685186248670 : True := trivial
theorem PySem.W.Fast.tw4292500188555128830 : True := trivial
theorem PySem.W.Fast.tw6122645084068987007 : True := trivial
theorem PySem.W.Fast.tw4549333791460862111 : True := trivial
theorem PySem.W.Fast.tw13746126617404028095 : True := trivial
theorem PySem.W.Fast.tw12224578244612797663 : True := trivial
theorem PySem.W.Fast.tw4405960384096086239 : True := trivial
theorem PySem.W.Fast.tw5189142188285759775 : True := trivial
theorem PySem.W.Fast.tw16349804527192203551 : True := trivial
theorem PySem.W.Fast.tw9011979029575296479 : True := trivial
theorem PySem.W.Fast.tw12973657651903071711 : True := trivial
theorem PySem.W.Fast.tw11729385059970357855 : True := trivial
theorem PySem.W.Fast.tw1139862187096482527 : True := trivial
theorem PySem.W.Fast.tw8224813933742928703 : True := trivial
theorem PySem.W.Fast.tw8987815912523675519 : True := trivial
theorem PySem.W.Fast.tw11452132507678324671 : True := trivial
theorem PySem.W.Fast.tw11994158751524154303 : True := trivial
theorem PySem.W.Fast.tw14223099787259518943 : True := trivial
theorem PySem.W.Fast.tw16967687005693386659 : True := trivial
theorem PySem.W.Fast.tw11324818565130849600 : True := trivial
theorem PySem.W.Fast.tw17612500589515189474 : True := trivial
theorem PySem.W.Fast.tw3093689853209987427 : True := trivial
theorem PySem.W.Fast.tw9252394240421950019 : True := trivial
theorem PySem.W.Fast.tw9012449721348205671 : True := trivial
theorem PySem.W.Fast.tw17111948838632640456 : True := trivial
theorem PySem.W.Fast.tw16430206352603755434 : True := trivial
theorem PySem.W.Fast.tw5143631309655554476 : True := trivial
theorem PySem.W.Fast.tw5659119934639910733 : True := trivial
theorem PySem.W.Fast.tw11477251267337587693 : True := trivial
theorem PySem.W.Fast.tw3916196269025109296 : True := trivial
theorem PySem.W.Fast.tw10836914690778327287 : True := trivial
theorem PySem.W.Fast.tw17471792292518334328 : True := trivial
theorem PySem.W.Fast.tw1411986856071831417 : True := trivial
theorem PySem.W.Fast.tw14391268981414578426 : True := trivial
theorem PySem.W.Fast.tw2289110617118728283 : True := trivial
theorem PySem.W.Fast.tw16487347958798203451 : True := trivial
theorem PySem.W.Fast.tw8376699189594788667 : True := trivial
theorem PySem.W.Fast.tw5393377272723796125 : True := trivial
namespace Mine
open_top hd for PySem.Challenge.rw_pb0380_01
set_option linter.all false
set_option rowWalk.seconds 0
open PySem.Calls PySem.Spec
theorem top_off : True := by (w_top off); trivial
theorem fill00 : (∀ P : Params, hd.heap_39 P = hd.heap_39 P) ∧ PySem.Challenge.rw_pb0380_01 = PySem.Challenge.rw_pb0380_01 := by
  k_fill
  exact ⟨fun _ => rfl, rfl⟩
noncomputable abbrev LO : List Str := looseW hd.view_39 [Str.ofString "host_call_phost", Str.ofString "collect", Str.ofString "flagged", Str.ofString "host_call_hostcalls"]
/-- an order of addresses, and their being apart, that omega does not see -/
noncomputable def Lo (a b : Nat) : Prop := a < b
theorem Lo.mk {a b : Nat} (h : a < b) : Lo a b := h
theorem Lo.lt {a b : Nat} (h : Lo a b) : a < b := h
theorem Lo.ne {a b : Nat} (h : Lo a b) : a ≠ b := Nat.ne_of_lt h
theorem Lo.ne' {a b : Nat} (h : Lo b a) : a ≠ b := Nat.ne_of_gt h
noncomputable def Off (a b : Nat) : Prop := a ≠ b
theorem Off.mk {a b : Nat} (h : a ≠ b) : Off a b := h
theorem Off.ne {a b : Nat} (h : Off a b) : a ≠ b := h
theorem Off.ne' {a b : Nat} (h : Off b a) : a ≠ b := Ne.symm h
theorem Lo.ne3 {a b c : Nat} (h2 : b < c) (h1 : Lo a b) : a ≠ c := Nat.ne_of_lt (Nat.lt_trans h1 h2)
theorem reg_01_1 : True := by (k_with "my_post" => (repeat ((with_reducible rename (@LT.lt Nat _ _ _ ∧ _) => z9q); have h9q := Lo.mk (And.left z9q); (first | have y9q := Lo.mk (And.right z9q) | have y9q := And.right z9q); clear z9q))); trivial
theorem reg_01_3 : True := by (k_with "my_neq0" => (first | with_reducible assumption | exact Lo.ne (by with_reducible assumption) | exact Lo.ne' (by with_reducible assumption) | exact Off.ne (by with_reducible assumption) | exact Off.ne' (by with_reducible assumption))); trivial
theorem reg_01_2 : True := by (k_with "my_neq" => (first | with_reducible assumption | exact Lo.ne (by with_reducible assumption) | exact Lo.ne' (by with_reducible assumption) | exact Off.ne (by with_reducible assumption) | exact Off.ne' (by with_reducible assumption) | (refine Ne.symm ?_; with_reducible assumption) | exact Lo.ne3 (by with_reducible assumption) (by with_reducible assumption) | (refine Ne.symm ?_; exact Lo.ne3 (by with_reducible assumption) (by with_reducible assumption)) | omega)); trivial
theorem reg_01_21 : True := by (k_with "my_k_steps" => (repeat' (first | (k_unfold; (try dsimp only)) | (k_end; wrow_close) | (walk1 <;> walk_at "my_post") | (dsimp only; walk1 <;> walk_at "my_post") | (leave1; try dsimp only) | fail "no step"))); trivial
local macro_rules | `(tactic| k_steps) => `(tactic| k_extra "my_k_steps")
theorem reg_01_22 : True := by (k_with "my_k_ne" => ((refine neN ?_; first | walk_at "my_neq0" | ((try dsimp only); walk_at "my_neq")))); trivial
local macro_rules | `(tactic| k_ne) => `(tactic| k_extra "my_k_ne")
local macro_rules | `(tactic| walk_at $k:str) => do `(tactic| k_extra $(Lean.Syntax.mkStrLit (k.getString ++ "!")))
theorem room1 {dp n n' R : Nat} (h : dp + n < R) (e : n' + 1 ≤ n) : dp + 1 + n' < R := by omega
theorem units1 {un n n' R : Nat} (h : un + 8 * n < R) (e : 3 + 8 * n' ≤ 8 * n) : un + 3 + 8 * n' < R := by omega
theorem room0 {dp n R : Nat} (h : dp + n < R) : dp < R := Nat.lt_of_le_of_lt (Nat.le_add_right _ _) h
theorem reg_01_24 : True := by (k_with "my_ktr_room" => (first | exact room1 (by assumption) (by decide) | exact room0 (by assumption))); trivial
local macro_rules | `(tactic| ktr_room) => `(tactic| k_extra "my_ktr_room")
theorem reg_01_25 : True := by (k_with "my_ktr_units" => (exact units1 (by assumption) (by decide))); trivial
local macro_rules | `(tactic| ktr_units) => `(tactic| k_extra "my_ktr_units")
noncomputable abbrev Led := List (Addr × Obj)

/-- a call of f from a function's frame: the objects of CH alone may change -/
noncomputable def Con (w : World) (n : Nat) (f : Addr) (vs : List Value) (CH : Led) (Pre : Heap → Prop) (Post : Heap → Value → Heap → Prop) : Prop :=
  ∀ (dp un : Nat) (gd : Option (List Code)) (cn : Str) (cs : Scope) (a : Addr) (ccd : Value) (cl : List (Str × Addr)) (outer : List Env) (A₀ : Around) (base h₀ : Heap) (L : Addr) (m : Str → Option Value) (s : Shared)
    (mean : ExcName → Option Value) (mg mb : Str → Option Value) (Q E : Value → Shared → Prop),
    Below A₀ base outer h₀ → Fr h₀ L s.heap m → (hd.heap_39 w.params).In h₀ → News h₀ L s.heap CH → Top hd.view_39 LO mean mg mb h₀ → cs.kind = .function →
    dp + n < recursionLimit → un + 8 * n < cLine → Pre s.heap →
    (∀ r h' tk', Fr h₀ L h' m → GSub s.heap h' (CH.map (·.1)) → Post s.heap r h' → Q r { s with heap := h', toks := tk' }) →
    wpAny (model PySem.Challenge.rw_pb0380_01.row.prog w) (ktrTop dp un gd cn cs L a ccd cl outer) (call (.ref f) vs) Q E s

theorem instAt_base {h₀ h : Heap} {L x dx C : Addr} {od : Obj} {sl : Array (Option Value)} {m : Str → Option Value} (F : Fr h₀ L h m) (h1 : h₀.get? x = some (⟨.ref C, some dx, .plain, sl⟩ : Obj)) (h2 : h₀.get? dx = some od) :
    W.InstAt h x ⟨.ref C, some dx, .plain, sl⟩ C (some od) := ⟨F.keep _ _ h1, rfl, rfl, F.keep _ _ h2⟩
theorem gsub_end {H g h' : Heap} {L' : Addr} {m' : Str → Option Value} {adr : List Addr} (G : GSub H g adr) (F : Fr g L' h' m') : GSub H h' adr := fun b o e n => F'.keep b o (G b o e n)
where F'  := F
theorem after0 {h₀ h h' : Heap} {L : Addr} {news : Led} (N : News h₀ L h news) (G : GSub h h' []) : News h₀ L h' news := fun p hp => ⟨G _ _ (N p hp).1 (by simp), (N p hp).2⟩
theorem after1 {h₀ h h' : Heap} {L d : Addr} {o o' : Obj} {news : Led} {g : Obj → Led} (N : News h₀ L h news) (U : UpdF d o news g) (G : GSub h h' [d]) (e : h'.get? d = some o') : News h₀ L h' (g o') := by
  obtain ⟨pre, post, rfl, hg, a, b⟩ := U.split
  have k : ∀ p ∈ pre ++ (d, o) :: post, p.1 ≠ d → h'.get? p.1 = some p.2 ∧ p.1 ≠ L ∧ h₀.get? p.1 = none := fun p hp hn => ⟨G _ _ (N p hp).1 (by simpa using hn), (N p hp).2⟩
  rw [hg]
  intro p hp
  rcases List.mem_append.mp hp with q | q
  · exact k p (List.mem_append_left _ q) (a p q)
  · rcases List.mem_cons.mp q with rfl | q
    · have := N (d, o) (List.mem_append_right _ (.head _))
      exact ⟨e, this.2⟩
    · exact k p (List.mem_append_right _ (.tail _ q)) (b p q)
theorem after2 {h₀ h h' : Heap} {L d d2 : Addr} {o o' o2 o2' : Obj} {news : Led} {g : Obj → Led} {g2 : Obj → Led} (N : News h₀ L h news) (U : UpdF d o news g) (U2 : UpdF d2 o2 (g o') g2) (G : GSub h h' [d, d2]) (e : h'.get? d = some o') (e2 : h'.get? d2 = some o2') :
    News h₀ L h' (g2 o2') := by
  obtain ⟨pre, post, rfl, hg, a, b⟩ := U.split
  obtain ⟨pre2, post2, hl, hg2, a2, b2⟩ := U2.split
  have k : ∀ p ∈ pre ++ (d, o') :: post, p.1 ≠ d2 → h'.get? p.1 = some p.2 ∧ p.1 ≠ L ∧ h₀.get? p.1 = none := fun p hp hn => by
    rcases List.mem_append.mp hp with q | q
    · have hq : p ∈ pre ++ (d, o) :: post := List.mem_append_left _ q
      exact ⟨G _ _ (N p hq).1 (by simp [a p q, hn]), (N p hq).2⟩
    · rcases List.mem_cons.mp q with rfl | q
      · have := N (d, o) (List.mem_append_right _ (.head _))
        exact ⟨e, this.2⟩
      · have hq : p ∈ pre ++ (d, o) :: post := List.mem_append_right _ (.tail _ q)
        exact ⟨G _ _ (N p hq).1 (by simp [b p q, hn]), (N p hq).2⟩
  rw [hg] at hl
  rw [hl] at k
  rw [hg2]
  have k2 : d2 ≠ L ∧ h₀.get? d2 = none := by
    have hm : (d2, o2) ∈ pre ++ (d, o') :: post := by rw [hl]; exact List.mem_append_right _ (.head _)
    rcases List.mem_append.mp hm with q | q
    · exact (N _ (List.mem_append_left _ q)).2
    · rcases List.mem_cons.mp q with q | q
      · cases q
        exact (N (d, o) (List.mem_append_right _ (.head _))).2
      · exact (N _ (List.mem_append_right _ (.tail _ q))).2
  intro p hp
  rcases List.mem_append.mp hp with q | q
  · exact k p (List.mem_append_left _ q) (a2 p q)
  · rcases List.mem_cons.mp q with rfl | q
    · exact ⟨e2, k2⟩
    · exact k p (List.mem_append_right _ (.tail _ q)) (b2 p q)
theorem afterNew {h₀ h h' : Heap} {L r : Addr} {o : Obj} {m : Str → Option Value} {news : Led} (F : Fr h₀ L h m) (N : News h₀ L h' news) (hr : h.get? r = none) (e : h'.get? r = some o) : News h₀ L h' ((r, o) :: news) := by
  intro p hp
  rcases List.mem_cons.mp hp with rfl | hp
  · obtain ⟨oL, _, _, hL, _⟩ := F.ns
    refine ⟨e, fun q => ?_, ?_⟩
    · have q : r = L := q
      rw [q, hL] at hr; cases hr
    cases hq : h₀.get? r with
    | none => rfl
    | some o' => rw [F.keep _ _ hq] at hr; cases hr
  · exact N p hp
theorem news_off {h₀ h : Heap} {L r : Addr} {news : Led} (N : News h₀ L h news) (hr : h.get? r = none) : LCg.Off1 r news := by
  have key : ∀ l : Led, (∀ p ∈ l, p ∈ news) → LCg.Off1 r l := by
    intro l
    induction l with
    | nil => intro _; trivial
    | cons p t ih => exact fun hl => ⟨(fun q => by rw [← q, (N p (hl p (.head _))).1] at hr; cases hr), ih fun q hq => hl q (.tail _ hq)⟩
  exact key news fun _ h => h
theorem off_all {h₀ h : Heap} {L r : Addr} {news : Led} (N : News h₀ L h news) (hr : h.get? r = none) : ∀ p ∈ news, Off p.1 r := fun p hp (q : p.1 = r) => by rw [← q, (N p hp).1] at hr; cases hr
structure Sealed (P : Prop) : Prop where
  out : P
inductive Adr : Led → List Nat → Prop
  | nil : Adr [] []
  | cons {a : Nat} {o : Obj} {t : Led} {as : List Nat} : Adr t as → Adr ((a, o) :: t) (a :: as)
noncomputable def LoThen (r : Nat) (P : Prop) : List Nat → Prop
  | [] => P
  | a :: t => Lo a r → LoThen r P t
theorem lo_cps {r : Addr} {news : Led} {P : Prop} {as : List Nat} (e : Adr news as) (l : ∀ p ∈ news, p.1 < r) (h : LoThen r (Sealed P) as) : P := by
  induction e with
  | nil => exact h.out
  | cons _ ih => exact ih (fun q hq => l q (.tail _ hq)) (h (l _ (.head _)))
noncomputable def OffThen (r : Nat) (P : Prop) : List Nat → Prop
  | [] => P
  | a :: t => Off a r → OffThen r P t
theorem off_cps {r : Addr} {news : Led} {P : Prop} {as : List Nat} (e : Adr news as) (l : ∀ p ∈ news, Off p.1 r) (h : OffThen r (Sealed P) as) : P := by
  induction e with
  | nil => exact h.out
  | cons _ ih => exact ih (fun q hq => l q (.tail _ hq)) (h (l _ (.head _)))
theorem Lo.tr {a b c : Nat} (h1 : Lo a b) (h2 : Lo b c) : Lo a c := Nat.lt_trans h1 h2
theorem reg_01_23 : True := by (k_with "my_k_lt" => (intro l9w; k_dflt ((first | refine lo_cps (by repeat (first | exact Adr.nil | apply Adr.cons)) l9w ?_ | refine off_cps (by repeat (first | exact Adr.nil | apply Adr.cons)) l9w ?_); clear l9w; (repeat intro); refine Sealed.mk ?_))); trivial
local macro_rules | `(tactic| k_lt $h) => `(tactic| (revert $h; k_extra "my_k_lt"))
theorem fresh_of {H g h' : Heap} {L' D : Addr} {news : Led} {o : Obj} {adr : List Addr} (G : GSub H g adr) (N : News g L' h' news) (hm : (D, o) ∈ news) (hn : D ∉ adr) : H.get? D = none := by
  cases hq : H.get? D with
  | none => rfl
  | some o' => have := G _ _ hq hn; rw [(N _ hm).2.2] at this; cases this
section
variable {w : World} {n : Nat} {f : Addr} {vs : List Value} {Pre : Heap → Prop} {Post : Heap → Value → Heap → Prop}
  {dp un : Nat} {gd : Option (List Code)} {cn : Str} {cs : Scope} {a : Addr} {ccd : Value} {cl : List (Str × Addr)} {outer : List Env} {A₀ : Around} {base h₀ : Heap} {L : Addr} {m : Str → Option Value} {s : Shared}
  {mean : ExcName → Option Value} {mg mb : Str → Option Value} {Q E : Value → Shared → Prop} {news : Led} {d d2 : Addr} {o o2 : Obj} {g : Obj → Led} {g2 : Obj → Obj → Led}
theorem use0 (B : Below A₀ base outer h₀) (F : Fr h₀ L s.heap m) (X : (hd.heap_39 w.params).In h₀) (N : News h₀ L s.heap news) (T : Top hd.view_39 LO mean mg mb h₀) (hk : cs.kind = .function)
    (hdp : dp + n < recursionLimit) (hun : un + 8 * n < cLine) (C : Con w n f vs [] Pre Post) (hp : Pre s.heap)
    (ret : ∀ r h' tk', Fr h₀ L h' m → News h₀ L h' news → GSub s.heap h' [] → Post s.heap r h' → Q r { s with heap := h', toks := tk' }) :
    wpAny (model PySem.Challenge.rw_pb0380_01.row.prog w) (ktrTop dp un gd cn cs L a ccd cl outer) (call (.ref f) vs) Q E s :=
  C _ _ _ _ _ _ _ _ _ _ _ _ _ _ _ _ _ _ _ _ B F X News.nil T hk hdp hun hp fun r h' tk' F' G P => ret r h' tk' F' (after0 N G) G P
theorem use0v {fv : Tok → Value} (B : Below A₀ base outer h₀) (F : Fr h₀ L s.heap m) (X : (hd.heap_39 w.params).In h₀) (N : News h₀ L s.heap news) (T : Top hd.view_39 LO mean mg mb h₀) (hk : cs.kind = .function)
    (hdp : dp + n < recursionLimit) (hun : un + 8 * n < cLine) (C : Con w n f vs [] Pre (fun _ r _ => ∃ t, r = fv t)) (hp : Pre s.heap)
    (ret : ∀ t h' tk', Fr h₀ L h' m → News h₀ L h' news → Q (fv t) { s with heap := h', toks := tk' }) :
    wpAny (model PySem.Challenge.rw_pb0380_01.row.prog w) (ktrTop dp un gd cn cs L a ccd cl outer) (call (.ref f) vs) Q E s :=
  use0 B F X N T hk hdp hun C hp fun r h' tk' F' N' _ P => by
    obtain ⟨t, rfl⟩ := P
    exact ret t h' tk' F' N'
theorem useA {CH : Led} (B : Below A₀ base outer h₀) (F : Fr h₀ L s.heap m) (X : (hd.heap_39 w.params).In h₀) (N : News h₀ L s.heap CH) (T : Top hd.view_39 LO mean mg mb h₀) (hk : cs.kind = .function)
    (hdp : dp + n < recursionLimit) (hun : un + 8 * n < cLine) (C : Con w n f vs CH Pre Post) (hp : Pre s.heap)
    (ret : ∀ r h' tk', Fr h₀ L h' m → News h₀ L h' [] → Post s.heap r h' → Q r { s with heap := h', toks := tk' }) :
    wpAny (model PySem.Challenge.rw_pb0380_01.row.prog w) (ktrTop dp un gd cn cs L a ccd cl outer) (call (.ref f) vs) Q E s :=
  C _ _ _ _ _ _ _ _ _ _ _ _ _ _ _ _ _ _ _ _ B F X N T hk hdp hun hp fun r h' tk' F' _ P => ret r h' tk' F' News.nil P
theorem Con.mono {CH : Led} {n' : Nat} (C : Con w n f vs CH Pre Post) (h : n ≤ n') : Con w n' f vs CH Pre Post := fun _ _ _ _ _ _ _ _ _ _ _ _ _ _ _ _ _ _ _ _ B F X N T hk hdp hun hp ret => C _ _ _ _ _ _ _ _ _ _ _ _ _ _ _ _ _ _ _ _ B F X N T hk (by omega) (by omega) hp ret
/-- what a caller knows of the heap stands in the callee's ground -/
noncomputable def Stays (CH : Led) (Pre : Heap → Prop) : Prop := ∀ h₀ L h g, News h₀ L h CH → GSub h g (CH.map (·.1)) → Pre h → Pre g
theorem use1 (B : Below A₀ base outer h₀) (F : Fr h₀ L s.heap m) (X : (hd.heap_39 w.params).In h₀) (N : News h₀ L s.heap news) (T : Top hd.view_39 LO mean mg mb h₀) (hk : cs.kind = .function)
    (hdp : dp + n < recursionLimit) (hun : un + 8 * n < cLine) (C : Con w n f vs [(d, o)] Pre Post) (hp : Pre s.heap) (U : UpdF d o news g)
    (ret : ∀ r h' tk', Fr h₀ L h' m → (∀ o', h'.get? d = some o' → News h₀ L h' (g o')) → GSub s.heap h' [d] → Post s.heap r h' → Q r { s with heap := h', toks := tk' }) :
    wpAny (model PySem.Challenge.rw_pb0380_01.row.prog w) (ktrTop dp un gd cn cs L a ccd cl outer) (call (.ref f) vs) Q E s :=
  C _ _ _ _ _ _ _ _ _ _ _ _ _ _ _ _ _ _ _ _ B F X (fun p hp => by
    obtain ⟨pre, post, rfl, _⟩ := U.split
    cases hp with
    | head => exact N _ (List.mem_append_right _ (.head _))
    | tail _ h => cases h) T hk hdp hun hp fun r h' tk' F' G P => ret r h' tk' F' (fun _ e => after1 N U G e) G P
theorem use2 (B : Below A₀ base outer h₀) (F : Fr h₀ L s.heap m) (X : (hd.heap_39 w.params).In h₀) (N : News h₀ L s.heap news) (T : Top hd.view_39 LO mean mg mb h₀) (hk : cs.kind = .function)
    (hdp : dp + n < recursionLimit) (hun : un + 8 * n < cLine) (C : Con w n f vs [(d, o), (d2, o2)] Pre Post) (hp : Pre s.heap) (U : UpdF d o news g) (U2 : ∀ o', UpdF d2 o2 (g o') (g2 o')) (hm : (d2, o2) ∈ news)
    (ret : ∀ r h' tk', Fr h₀ L h' m → (∀ o' o2', h'.get? d = some o' → h'.get? d2 = some o2' → News h₀ L h' (g2 o' o2')) → GSub s.heap h' [d, d2] → Post s.heap r h' → Q r { s with heap := h', toks := tk' }) :
    wpAny (model PySem.Challenge.rw_pb0380_01.row.prog w) (ktrTop dp un gd cn cs L a ccd cl outer) (call (.ref f) vs) Q E s :=
  C _ _ _ _ _ _ _ _ _ _ _ _ _ _ _ _ _ _ _ _ B F X (fun p hp => by
    obtain ⟨pre, post, rfl, _⟩ := U.split
    cases hp with
    | head => exact N _ (List.mem_append_right _ (.head _))
    | tail _ h => cases h with
      | head => exact N _ hm
      | tail _ h => cases h) T hk hdp hun hp fun r h' tk' F' G P => ret r h' tk' F' (fun _ _ e e2 => after2 N U (U2 _) G e e2) G P
theorem use1n {v : Value} {R : Obj → Prop} (B : Below A₀ base outer h₀) (F : Fr h₀ L s.heap m) (X : (hd.heap_39 w.params).In h₀) (N : News h₀ L s.heap news) (T : Top hd.view_39 LO mean mg mb h₀) (hk : cs.kind = .function)
    (hdp : dp + n < recursionLimit) (hun : un + 8 * n < cLine) (C : Con w n f vs [(d, o)] Pre (fun _ r h' => r = v ∧ ∃ o', h'.get? d = some o' ∧ R o')) (hp : Pre s.heap) (U : UpdF d o news g)
    (ret : ∀ h' tk' o', Fr h₀ L h' m → News h₀ L h' (g o') → R o' → Q v { s with heap := h', toks := tk' }) :
    wpAny (model PySem.Challenge.rw_pb0380_01.row.prog w) (ktrTop dp un gd cn cs L a ccd cl outer) (call (.ref f) vs) Q E s :=
  use1 B F X N T hk hdp hun C hp U fun r h' tk' F' N' _ P => by
    obtain ⟨rfl, o9, e9, h9⟩ := P
    exact ret h' tk' o9 F' (N' _ e9) h9
theorem use1m {ι : Type} {v : Value} {R : Obj → ι → Prop} (B : Below A₀ base outer h₀) (F : Fr h₀ L s.heap m) (X : (hd.heap_39 w.params).In h₀) (N : News h₀ L s.heap news) (T : Top hd.view_39 LO mean mg mb h₀) (hk : cs.kind = .function)
    (hdp : dp + n < recursionLimit) (hun : un + 8 * n < cLine) (C : Con w n f vs [(d, o)] Pre (fun _ r h' => r = v ∧ ∃ o' i, h'.get? d = some o' ∧ R o' i)) (hp : Pre s.heap) (U : UpdF d o news g)
    (ret : ∀ h' tk' o' i, Fr h₀ L h' m → News h₀ L h' (g o') → R o' i → Q v { s with heap := h', toks := tk' }) :
    wpAny (model PySem.Challenge.rw_pb0380_01.row.prog w) (ktrTop dp un gd cn cs L a ccd cl outer) (call (.ref f) vs) Q E s :=
  use1 B F X N T hk hdp hun C hp U fun r h' tk' F' N' _ P => by
    obtain ⟨rfl, o9, i9, e9, h9⟩ := P
    exact ret h' tk' o9 i9 F' (N' _ e9) h9
theorem use1d {R : Obj → Prop} (B : Below A₀ base outer h₀) (F : Fr h₀ L s.heap m) (X : (hd.heap_39 w.params).In h₀) (N : News h₀ L s.heap news) (T : Top hd.view_39 LO mean mg mb h₀) (hk : cs.kind = .function)
    (hdp : dp + n < recursionLimit) (hun : un + 8 * n < cLine) (C : Con w n f vs [(d, o)] Pre (fun _ _ h' => ∃ o', h'.get? d = some o' ∧ R o')) (hp : Pre s.heap) (U : UpdF d o news g)
    (ret : ∀ r h' tk' o', Fr h₀ L h' m → News h₀ L h' (g o') → R o' → Q r { s with heap := h', toks := tk' }) :
    wpAny (model PySem.Challenge.rw_pb0380_01.row.prog w) (ktrTop dp un gd cn cs L a ccd cl outer) (call (.ref f) vs) Q E s :=
  use1 B F X N T hk hdp hun C hp U fun r h' tk' F' N' _ P => by
    obtain ⟨o9, e9, h9⟩ := P
    exact ret r h' tk' o9 F' (N' _ e9) h9
theorem use1v {S : Int → Prop} {R : Obj → Prop} (B : Below A₀ base outer h₀) (F : Fr h₀ L s.heap m) (X : (hd.heap_39 w.params).In h₀) (N : News h₀ L s.heap news) (T : Top hd.view_39 LO mean mg mb h₀) (hk : cs.kind = .function)
    (hdp : dp + n < recursionLimit) (hun : un + 8 * n < cLine) (C : Con w n f vs [(d, o)] Pre (fun _ r h' => ∃ i t, r = .int i t ∧ S i ∧ ∃ o', h'.get? d = some o' ∧ R o')) (hp : Pre s.heap) (U : UpdF d o news g)
    (ret : ∀ i t h' tk' o', Fr h₀ L h' m → News h₀ L h' (g o') → S i → R o' → Q (.int i t) { s with heap := h', toks := tk' }) :
    wpAny (model PySem.Challenge.rw_pb0380_01.row.prog w) (ktrTop dp un gd cn cs L a ccd cl outer) (call (.ref f) vs) Q E s :=
  use1 B F X N T hk hdp hun C hp U fun r h' tk' F' N' _ P => by
    obtain ⟨i9, t9, rfl, hi9, o9, e9, h9⟩ := P
    exact ret i9 t9 h' tk' o9 F' (N' _ e9) hi9 h9
theorem use2n {ι : Type} {v : Value} {R : Obj → Obj → ι → Prop} (B : Below A₀ base outer h₀) (F : Fr h₀ L s.heap m) (X : (hd.heap_39 w.params).In h₀) (N : News h₀ L s.heap news) (T : Top hd.view_39 LO mean mg mb h₀) (hk : cs.kind = .function)
    (hdp : dp + n < recursionLimit) (hun : un + 8 * n < cLine) (C : Con w n f vs [(d, o), (d2, o2)] Pre (fun _ r h' => r = v ∧ ∃ o' o2' i, h'.get? d = some o' ∧ h'.get? d2 = some o2' ∧ R o' o2' i)) (hp : Pre s.heap) (U : UpdF d o news g) (U2 : ∀ o', UpdF d2 o2 (g o') (g2 o')) (hm : (d2, o2) ∈ news)
    (ret : ∀ h' tk' o' o2' i, Fr h₀ L h' m → News h₀ L h' (g2 o' o2') → R o' o2' i → Q v { s with heap := h', toks := tk' }) :
    wpAny (model PySem.Challenge.rw_pb0380_01.row.prog w) (ktrTop dp un gd cn cs L a ccd cl outer) (call (.ref f) vs) Q E s :=
  use2 B F X N T hk hdp hun C hp U U2 hm fun r h' tk' F' N' _ P => by
    obtain ⟨rfl, o9, o8, i9, e9, e8, h9⟩ := P
    exact ret h' tk' o9 o8 i9 F' (N' _ _ e9 e8) h9
theorem use2d {R : Obj → Obj → Prop} (B : Below A₀ base outer h₀) (F : Fr h₀ L s.heap m) (X : (hd.heap_39 w.params).In h₀) (N : News h₀ L s.heap news) (T : Top hd.view_39 LO mean mg mb h₀) (hk : cs.kind = .function)
    (hdp : dp + n < recursionLimit) (hun : un + 8 * n < cLine) (C : Con w n f vs [(d, o), (d2, o2)] Pre (fun _ _ h' => ∃ o' o2', h'.get? d = some o' ∧ h'.get? d2 = some o2' ∧ R o' o2')) (hp : Pre s.heap) (U : UpdF d o news g) (U2 : ∀ o', UpdF d2 o2 (g o') (g2 o')) (hm : (d2, o2) ∈ news)
    (ret : ∀ r h' tk' o' o2', Fr h₀ L h' m → News h₀ L h' (g2 o' o2') → R o' o2' → Q r { s with heap := h', toks := tk' }) :
    wpAny (model PySem.Challenge.rw_pb0380_01.row.prog w) (ktrTop dp un gd cn cs L a ccd cl outer) (call (.ref f) vs) Q E s :=
  use2 B F X N T hk hdp hun C hp U U2 hm fun r h' tk' F' N' _ P => by
    obtain ⟨o9, o8, e9, e8, h9⟩ := P
    exact ret r h' tk' o9 o8 F' (N' _ _ e9 e8) h9
end

/-- the words of a memory: ints of 32 bits at the places 0 .. 227 -/
noncomputable def Words (w : World) (o : Obj) (W : Int → Int) : Prop :=
  ∃ kvs : List (Int × Value), o.IsDictOf (intKind PySem.Challenge.rw_pb0380_01.row.prog w) kvs ∧ (∀ p ∈ kvs, 0 ≤ p.1 ∧ p.1 < 228) ∧
    ∀ k, (0 ≤ W k ∧ W k < 4294967296) ∧ ((valueAt kvs k = none ∧ W k = 0) ∨ ∃ t, valueAt kvs k = some (.int (W k) t))
theorem Words.range {w : World} {o : Obj} {W : Int → Int} (h : Words w o W) (k : Int) : 0 ≤ W k ∧ W k < 4294967296 := by obtain ⟨_, _, _, h⟩ := h; exact (h k).1
noncomputable def updW (W : Int → Int) (k x : Int) : Int → Int := fun j => if j = k then x else W j
theorem updW_same (W : Int → Int) (k x : Int) : updW W k x k = x := if_pos rfl
theorem updW_ne (W : Int → Int) {k j : Int} (x : Int) (h : j ≠ k) : updW W k x j = W j := if_neg h
theorem valueAt_store (kvs : List (Int × Value)) (k : Int) (v : Value) (j : Int) : valueAt (stored kvs k v) j = if j = k then some v else valueAt kvs j := by
  unfold stored
  split
  · rename_i h
    by_cases e : j = k
    · subst e
      rw [if_pos rfl]
      induction kvs with
      | nil => simp at h
      | cons p r ih =>
        unfold valueAt at ih ⊢
        by_cases q : p.1 = j
        · simp [q]
        · simp only [List.any_cons, Bool.or_eq_true, decide_eq_true_eq, q, false_or] at h
          simp only [List.map_cons, q, if_false, List.find?_cons, decide_false]
          exact ih h
    · rw [if_neg e]
      clear h
      induction kvs with
      | nil => rfl
      | cons p r ih =>
        unfold valueAt at ih ⊢
        by_cases q : p.1 = k
        · have hj : ¬ p.1 = j := fun x => e (by rw [← x, q])
          have hkj : ¬ k = j := fun x => e x.symm
          simp only [List.map_cons, q, if_true, List.find?_cons, decide_false, hj, hkj]
          exact ih
        · simp only [List.map_cons, q, if_false, List.find?_cons]
          cases decide (p.1 = j) with
          | true => rfl
          | false => exact ih
  · rename_i h
    have hn : ∀ p ∈ kvs, p.1 ≠ k := fun p hp e => h (List.any_eq_true.mpr ⟨p, hp, by simp [e]⟩)
    unfold valueAt
    rw [List.find?_append]
    by_cases e : j = k
    · subst e
      rw [if_pos rfl, List.find?_eq_none.mpr (by simpa using hn)]
      simp
    · rw [if_neg e]
      have : (List.find? (fun kv => decide (kv.1 = j)) [(k, v)]) = none := by simp [Ne.symm e]
      rw [this]; simp
theorem nodup_range (n : Nat) : ∀ (l : List Int), l.Nodup → (∀ x ∈ l, 0 ≤ x ∧ x < (n : Int)) → l.length ≤ n := by
  induction n with
  | zero =>
    intro l _ hr
    cases l with
    | nil => exact Nat.le_refl _
    | cons x r => have := hr x (.head _); omega
  | succ n ih =>
    intro l h hr
    by_cases hm : (n : Int) ∈ l
    · have h1 := ih (l.erase n) (h.erase _) (fun x hx => by
        have := (h.mem_erase_iff).mp hx
        have h2 := hr x this.2
        have h3 : x ≠ n := this.1
        omega)
      rw [List.length_erase_of_mem hm] at h1
      omega
    · have := ih l h (fun x hx => by
        have h2 := hr x hx
        have h3 : x ≠ n := fun e => hm (e ▸ hx)
        omega)
      omega
section
variable {w : World} {A : Around} {E : Value → Shared → Prop} {s : Shared} {h₀ : Heap} {L d : Addr} {m : Str → Option Value} {news : Led} {g : Obj → Led} {o : Obj} {W : Int → Int} {k x : Int} {t tx t0 : Tok}
theorem words_method {pl : Sem Bool} {Q : Value × List Value → Shared → Prop} (N : News h₀ L s.heap news) (hp : (d, o) ∈ news) (hW : Words w o W) (h : Q (.builtin "dict.get", [.ref d]) s) :
    wpAny (model PySem.Challenge.rw_pb0380_01.row.prog w) A (getMethod (.ref d) "get" pl) Q E s := by
  obtain ⟨kvs, hd, _⟩ := hW
  exact kdg_method (knd := intKind _ _) N hp hd h
theorem words_get {Q : Value → Shared → Prop} (N : News h₀ L s.heap news) (hp : (d, o) ∈ news) (hW : Words w o W) (lo : d ≠ sysModules) (h : ∀ t, Q (.int (W k) t) { s with toks := s.toks + 1 }) :
    wpAny (model PySem.Challenge.rw_pb0380_01.row.prog w) A (call (.builtin "dict.get") [.ref d, .int k t, .int 0 t0]) Q E s := by
  obtain ⟨kvs, hd, _, hv⟩ := hW
  refine kdg_get2 (knd := intKind _ _) N hp hd (by simpa using lo) (intKind_is _ _ _ _) (valueAt kvs k) rfl ?_
  rcases (hv k).2 with ⟨e, e'⟩ | ⟨t, e⟩
  · rw [e]; have := h t0; rw [e'] at this; exact this
  · rw [e]; exact h t
theorem words_set {Q : Unit → Shared → Prop} (F : Fr h₀ L s.heap m) (N : News h₀ L s.heap news) (U : UpdF d o news g) (hW : Words w o W) (hk : 0 ≤ k ∧ k < 228) (hx : 0 ≤ x ∧ x < 4294967296)
    (h : ∀ h' o', Fr h₀ L h' m → News h₀ L h' (g o') → Words w o' (updW W k x) → Q () { s with heap := h', toks := s.toks + 1 }) :
    wpAny (model PySem.Challenge.rw_pb0380_01.row.prog w) A (setItem (.ref d) (.int k t) (.int x tx)) Q E s := by
  obtain ⟨kvs, hd, hr, hv⟩ := hW
  have hnd : (kvs.map (·.1)).Nodup := by obtain ⟨_, _, _, _, _, _, hn⟩ := hd; exact hn
  have hlen : kvs.length ≤ 228 := by
    have := nodup_range 228 _ hnd (by intro y hy; obtain ⟨p, hp, rfl⟩ := List.mem_map.mp hy; exact hr p hp)
    simpa using this
  refine kda_set (knd := intKind _ _) F N U hd (intKind_is _ _ _ _) (by rw [sizeLine_eq]; omega) fun h' o' F' N' hd' => h h' o' F' N' ⟨_, hd', ?_, ?_⟩
  · intro p hp
    have : p.1 ∈ (stored kvs k (.int x tx)).map (·.1) := List.mem_map_of_mem hp
    unfold stored at this
    split at this
    · rw [List.map_map] at this
      obtain ⟨q, hq, e⟩ := List.mem_map.mp this
      have := hr q hq
      have e : q.1 = p.1 := by
        rw [← e]; simp only [Function.comp]; split <;> rfl
      rw [← e]; exact this
    · rw [List.map_append] at this
      rcases List.mem_append.mp this with e | e
      · obtain ⟨q, hq, e⟩ := List.mem_map.mp e
        rw [← e]; exact hr q hq
      · simp at e; rw [e]; exact hk
  · intro j
    rw [valueAt_store]
    unfold updW
    by_cases e : j = k
    · rw [if_pos e, if_pos e]; exact ⟨hx, .inr ⟨tx, rfl⟩⟩
    · rw [if_neg e, if_neg e]; exact hv j
end
/-- an object that the law's calls may change: a list, the words, the cells; no object of a class and no dict of one -/
noncomputable def MutObj (o : Obj) : Prop := (∀ C d sl, o ≠ ⟨.ref C, some d, .plain, sl⟩) ∧ (∀ es n, o = dictOf es n → ∀ e ∈ es, ∀ k t, e.key = .str k t → k = Str.ofString "Int" ∨ k = Str.ofString "Char" ∨ k = Str.ofString "done")
noncomputable def Mut (h : Heap) (adr : List Addr) : Prop := ∀ a ∈ adr, ∃ o, h.get? a = some o ∧ MutObj o
theorem Mut.nil {h : Heap} : Mut h [] := fun _ h => nomatch h
theorem Mut.cons {h : Heap} {a : Addr} {o : Obj} {r : List Addr} (e : h.get? a = some o) (m : MutObj o) (M : Mut h r) : Mut h (a :: r) := fun b hb => by
  rcases List.mem_cons.mp hb with rfl | hb
  · exact ⟨o, e, m⟩
  · exact M b hb
theorem mut_list {vs : Array Value} {n : Nat} : MutObj { cls := .type "list", data := .seq vs n } := by
  refine ⟨fun C d sl h => ?_, fun es m h => ?_⟩
  · have := congrArg Obj.data h; cases this
  · have := congrArg Obj.data h; cases this
theorem mut_words {w : World} {o : Obj} {W : Int → Int} (h : Words w o W) : MutObj o := by
  obtain ⟨kvs, ⟨es, ep, hx, hd, hk, hp, -⟩, -⟩ := h
  refine ⟨fun C d sl e => ?_, fun es' n e x hx' k t hkey => ?_⟩
  · rw [e] at hd; cases hd
  · rw [e] at hd
    have he : es'.toArray = es := by injection hd
    obtain ⟨k', hk', -⟩ := hk x (by rw [← he]; simpa using hx')
    rw [hkey] at hk'
    cases hk'
/-- the object x of the class C, with the attributes es -/
theorem attr_sub {h g : Heap} {x dx C : Addr} {es : List DictEntry} {n : Nat} {adr : List Addr} {e₀ : DictEntry} {r : List DictEntry} {k₀ : Str} {t₀ : Tok} (G : GSub h g adr) (M : Mut h adr) (hx : h.get? x = some (instObj C dx)) (hd : h.get? dx = some (dictOf es n)) (he : es = e₀ :: r) (hk : e₀.key = .str k₀ t₀)
    (h1 : k₀ ≠ Str.ofString "Int" := by decide) (h2 : k₀ ≠ Str.ofString "Char" := by decide) (h3 : k₀ ≠ Str.ofString "done" := by decide) : g.get? x = some (instObj C dx) ∧ g.get? dx = some (dictOf es n) := by
  refine ⟨G _ _ hx fun q => ?_, G _ _ hd fun q => ?_⟩
  · obtain ⟨o, e, m⟩ := M _ q
    rw [hx] at e
    exact m.1 _ _ _ (Option.some.inj e).symm
  · obtain ⟨o, e, m⟩ := M _ q
    rw [hd] at e
    rcases m.2 _ _ (Option.some.inj e).symm e₀ (by rw [he]; exact .head _) k₀ t₀ hk with q | q | q
    · exact h1 q
    · exact h2 q
    · exact h3 q
noncomputable abbrev memE (k1 k2 : Int) (t1 t2 t3 : Tok) (wd : Addr) : List DictEntry := [⟨k1, .str (Str.ofString "size") t1, .int 912 t2⟩, ⟨k2, .str (Str.ofString "words") t3, .ref wd⟩]
/-- a Memory of 912 bytes, its words at wd -/
noncomputable def MemAt (h : Heap) (x wd : Addr) : Prop :=
  ∃ dx k1 k2 t1 t2 t3, h.get? x = some (instObj 625 dx) ∧ h.get? dx = some (dictOf (memE k1 k2 t1 t2 t3 wd) 2) ∧ wd ≠ sysModules
theorem MemAt.elim {h : Heap} {x wd : Addr} {P : Prop} (H : MemAt h x wd) (k : ∀ dx k1 k2 t1 t2 t3, h.get? x = some (instObj 625 dx) → h.get? dx = some (dictOf (memE k1 k2 t1 t2 t3 wd) 2) → wd ≠ sysModules → P) : P := by
  obtain ⟨dx, k1, k2, t1, t2, t3, a, b, c⟩ := H
  exact k dx k1 k2 t1 t2 t3 a b c
theorem MemAt.keep {h₀ h : Heap} {L : Addr} {m : Str → Option Value} {x wd : Addr} (M : MemAt h₀ x wd) (F : Fr h₀ L h m) : MemAt h x wd := by
  obtain ⟨dx, k1, k2, t1, t2, t3, a, b, c⟩ := M
  exact ⟨dx, k1, k2, t1, t2, t3, F.keep _ _ a, F.keep _ _ b, c⟩
theorem MemAt.sub {h g : Heap} {x wd : Addr} {adr : List Addr} (H : MemAt h x wd) (G : GSub h g adr) (M : Mut h adr) : MemAt g x wd := by
  obtain ⟨dx, k1, k2, t1, t2, t3, a, b, e⟩ := H
  obtain ⟨a, b⟩ := attr_sub G M a b rfl rfl
  exact ⟨dx, k1, k2, t1, t2, t3, a, b, e⟩
theorem words_get0 {w : World} {A : Around} {E : Value → Shared → Prop} {s : Shared} {d : Addr} {o : Obj} {W : Int → Int} {k : Int} {t t0 : Tok} {Q : Value → Shared → Prop} (hg : s.heap.get? d = some o) (hW : Words w o W) (lo : d ≠ sysModules) (h : ∀ t, Q (.int (W k) t) { s with toks := s.toks + 1 }) :
    wpAny (model PySem.Challenge.rw_pb0380_01.row.prog w) A (call (.builtin "dict.get") [.ref d, .int k t, .int 0 t0]) Q E s := by
  obtain ⟨kvs, hd, _, hv⟩ := hW
  have hD : s.heap.DictOf (intKind PySem.Challenge.rw_pb0380_01.row.prog w) d kvs := Heap.dictOf_iff.mpr ⟨o, hg, hd⟩
  refine call_meetsIn PySem.F.slot_dict_get hD.typeIs PySem.F.entry_dict_get (PySem.F.args_dict_get_3 _ _ _) (meets_dict_get_default _ d (intKind_is _ _ _ _) (by simpa using lo) _) ⟨_, hD.mapOf, ?_⟩
  rcases (hv k).2 with ⟨e, e'⟩ | ⟨t, e⟩
  · rw [e]; have := h t0; rw [e'] at this; exact this
  · rw [e]; exact h t
theorem words_method0 {w : World} {A : Around} {E : Value → Shared → Prop} {s : Shared} {d : Addr} {o : Obj} {W : Int → Int} {pl : Sem Bool} {Q : Value × List Value → Shared → Prop} (hg : s.heap.get? d = some o) (hW : Words w o W) (h : Q (.builtin "dict.get", [.ref d]) s) :
    wpAny (model PySem.Challenge.rw_pb0380_01.row.prog w) A (getMethod (.ref d) "get" pl) Q E s := by
  obtain ⟨kvs, hd, _⟩ := hW
  have hD : s.heap.DictOf (intKind PySem.Challenge.rw_pb0380_01.row.prog w) d kvs := Heap.dictOf_iff.mpr ⟨o, hg, hd⟩
  exact getMethod_builtin hD.typeIs PySem.F.plainAttrs_dict PySem.F.slot_dict_get PySem.F.type_dict_get hD.mapOf.noDict h
section
variable {prog : Program} {w : World} {A : Around} {E Q : Value → Shared → Prop} {s : Shared} {x k : Int} {t u : Tok}
theorem mod_pos (hk : 0 < k) (h : Q (.int (x % k) s.toks) { s with toks := s.toks + 1 }) : wpAny (model prog w) A (binaryOp .Mod (.int x t) (.int k u)) Q E s :=
  mod_int' (Int.ne_of_gt hk) (by rw [Int.fmod_eq_emod_of_nonneg _ (Int.le_of_lt hk)]; exact h)
theorem and_255 (h : Q (.int (x % 256) s.toks) { s with toks := s.toks + 1 }) : wpAny (model prog w) A (binaryOp .BitAnd (.int x t) (.int 255 u)) Q E s := and_int (by rw [bitAnd_m8]; exact h)
end
theorem reg_02_1 : True := by (k_with "binaryOp Mod int int!" => (with_reducible refine mod_pos (by decide) ?_)); trivial
theorem reg_02_2 : True := by (k_with "binaryOp BitAnd int int!" => (with_reducible refine and_255 ?_)); trivial
theorem reg_02_3 : True := by (k_with "binaryOp LShift int int!" => ((with_reducible refine' lshift_int_small ?kb1 ?kb2 ?kb3 ?_); (case kb1 => omega); (case kb2 => omega); (case kb3 => omega))); trivial
theorem reg_02_26 : True := by (k_with "my_k_inst" => (exact instAt_base (by k_asm) (by assumption) (by assumption))); trivial
local macro_rules | `(tactic| k_inst) => `(tactic| k_extra "my_k_inst")
theorem reg_02_4 : True := by (k_with "my_enter" => (refine wpAny_call ?_; (refine' code_defG ?k1 ?k2 ?k3 ?k4 ?k5 ?kA ?kF ?kK ?k6 ?k7 ?k8 ?k9q ?kB ?_ ?c2 ?c3 ?c4 ?c5; (case kA => exact rfl); (case kF => exact rfl); (case kK => assumption); (case k1 => k_asm); (case k2 => k_asm); (case k3 => k_asm); (case k4 => k_asm); (case k5 => k_asm); (case k6 => k_is); (case k7 => k_is); (case k8 => ktr_room); (case k9q => exact BindsTo.of_eq rfl); (case c5 => decide); (case kB => exact locs rfl); (case c2 => exact rfl); (case c3 => exact rfl); (case c4 => exact rfl); k_whole))); trivial
theorem con_place (w : World) (x wd : Addr) (n : Int) (tn : Tok) (hn : 0 ≤ n ∧ n < 912) :
    Con w 3 594 [.ref x, .int n tn] [] (fun h => MemAt h x wd) (fun _ r _ => ∃ t, r = .int (n / 4) t) := by
  unfold Con
  intro dp un gd cn cs a ccd cl outer A₀ base h₀ L m s mean mg mb Q E B F X N T hk hdp hun hp hret
  walk_at "my_enter"
  intro g' L' h' FG' F' N' B' X' T' kG'
  (try dsimp only)
  (try k_fold)
  have hp := hp.sub kG' Mut.nil
  refine MemAt.elim hp ?_; intro dx k1 k2 t1 t2 t3 hx hdx _
  k_steps
  all_goals exact hret _ _ _ (by k_asm) (gsub_end kG' (by k_asm)) ⟨_, by rw [Int.fdiv_eq_ediv_of_nonneg _ (by decide)]⟩
theorem reg_02_5 : True := by (k_with "my_base" => first | exact Fr.keep (by k_asm) _ _ (by assumption) | exact News.get (by k_asm) (by k_mem)); trivial
theorem reg_02_6 : True := by (k_with "my_mem" => exact MemAt.keep (by assumption) (by k_asm)); trivial
theorem reg_02_7 : True := by (k_with "my_z" => ((try k_sweep); (try dsimp only); (try k_fold))); trivial
theorem reg_02_8 : True := by (k_with "call ref!" => ((with_reducible show wpAny _ _ (call (Value.ref 594) _) _ _ _); k_dflt (refine use0v (by k_asm) (by k_asm) (by k_asm) (by k_asm) (by k_asm) (by first | exact rfl | assumption) (by ktr_room) (by ktr_units) (C := con_place _ _ _ _ _ (by first | with_reducible assumption | decide | omega)) (hp := by walk_at "my_mem") (ret := ?_); intro t9q h9q tk9q F9q N9q; walk_at "my_z"))); trivial
theorem reg_02_9 : True := by (k_with "getMethod ref!" => ((with_reducible show wpAny _ _ (getMethod (Value.ref _) (Str.ofString "get") _) _ _ _); first | refine words_method0 (Fr.keep (by k_asm) _ _ (by assumption)) (by assumption) ?_ | refine words_method (by k_asm) (by k_mem) (by assumption) ?_)); trivial
theorem reg_02_10 : True := by (k_with "call builtin:dict.get!" => ((with_reducible show wpAny _ _ (call _ [_, Value.int _ _, Value.int _ _]) _ _ _); (first | refine words_get0 (Fr.keep (by k_asm) _ _ (by assumption)) (by assumption) (by assumption) ?_ | refine words_get (by k_asm) (by k_mem) (by assumption) (by assumption) ?_); intro t9q; (try dsimp only))); trivial
theorem con_word (w : World) (x wd : Addr) (wo : Obj) (W : Int → Int) (hW : Words w wo W) (n : Int) (tn : Tok) (hn : 0 ≤ n ∧ n < 912) :
    Con w 6 601 [.ref x, .int n tn] [] (fun h => MemAt h x wd ∧ h.get? wd = some wo) (fun _ r _ => ∃ t, r = .int (W (n / 4)) t) := by
  unfold Con
  intro dp un gd cn cs a ccd cl outer A₀ base h₀ L m s mean mg mb Q E B F X N T hk hdp hun hp hret
  walk_at "my_enter"
  intro g' L' h' FG' F' N' B' X' T' kG'
  (try dsimp only)
  (try k_fold)
  have hwd := kG' _ _ hp.2 (by simp)
  have hp := hp.1.sub kG' Mut.nil
  have hM := hp
  refine MemAt.elim hp ?_; intro dx k1 k2 t1 t2 t3 hx hdx lo
  k_steps
  all_goals exact hret _ _ _ (by k_asm) (gsub_end kG' (by k_asm)) ⟨_, rfl⟩
theorem reg_02_11 : True := by (k_with "call ref!" => ((with_reducible show wpAny _ _ (call (Value.ref 601) _) _ _ _); k_dflt (refine use0v (by k_asm) (by k_asm) (by k_asm) (by k_asm) (by k_asm) (by first | exact rfl | assumption) (by ktr_room) (by ktr_units) (C := con_word _ _ _ _ _ (by assumption) _ _ (by first | with_reducible assumption | decide | omega)) (hp := ⟨by walk_at "my_mem", by walk_at "my_base"⟩) (ret := ?_); intro t9q h9q tk9q F9q N9q; walk_at "my_z"))); trivial
theorem ret_int {x y : Int} {t : Tok} (e : x = y) : ∃ t', Value.int x t = Value.int y t' := ⟨t, by rw [e]⟩
/-- the byte at a -/
noncomputable def byteAt (W : Int → Int) (a : Int) : Int := W (a / 4) / 2 ^ (8 * (a % 4)).toNat % 256
theorem con_byte (w : World) (x wd : Addr) (wo : Obj) (W : Int → Int) (hW : Words w wo W) (n : Int) (tn : Tok) (hn : 0 ≤ n ∧ n < 912) :
    Con w 9 615 [.ref x, .int n tn] [] (fun h => MemAt h x wd ∧ h.get? wd = some wo) (fun _ r _ => ∃ t, r = .int (byteAt W n) t) := by
  unfold Con
  intro dp un gd cn cs a ccd cl outer A₀ base h₀ L m s mean mg mb Q E B F X N T hk hdp hun hp hret
  walk_at "my_enter"
  intro g' L' h' FG' F' N' B' X' T' kG'
  (try dsimp only)
  (try k_fold)
  have hwd := kG' _ _ hp.2 (by simp)
  have hp := hp.1.sub kG' Mut.nil
  have hM := hp
  have hWr := hW.range (n / 4)
  refine MemAt.elim hp ?_; intro dx k1 k2 t1 t2 t3 hx hdx lo
  k_steps
  all_goals (refine hret _ _ _ (by k_asm) (gsub_end kG' (by k_asm)) (ret_int ?_); rw [Int.fdiv_eq_ediv_of_nonneg _ (Int.le_of_lt (Int.pow_pos (by decide)))]; rfl)
theorem reg_02_12 : True := by (k_with "call ref!" => ((with_reducible show wpAny _ _ (call (Value.ref 615) _) _ _ _); k_dflt (refine use0v (by k_asm) (by k_asm) (by k_asm) (by k_asm) (by k_asm) (by first | exact rfl | assumption) (by ktr_room) (by ktr_units) (C := con_byte _ _ _ _ _ (by assumption) _ _ (by first | with_reducible assumption | decide | omega)) (hp := ⟨by walk_at "my_mem", by walk_at "my_base"⟩) (ret := ?_); intro t9q h9q tk9q F9q N9q; walk_at "my_z"))); trivial
theorem reg_02_13 : True := by (k_with "setItem ref int!" => (refine words_set (by k_asm) (by k_asm) (by k_updF) (by assumption) (by first | decide | omega) (by first | decide | omega) ?_; intro h9q o9q F9q N9q W9q; (try dsimp only at N9q); (try k_sweep); (try dsimp only))); trivial
theorem con_put_word (w : World) (x wd : Addr) (wo : Obj) (W : Int → Int) (hW : Words w wo W) (n v : Int) (tn tv : Tok) (hn : 0 ≤ n ∧ n < 912) :
    Con w 6 608 [.ref x, .int n tn, .int v tv] [(wd, wo)] (fun h => MemAt h x wd) (fun _ r h' => r = .none ∧ ∃ wo' W', h'.get? wd = some wo' ∧ Words w wo' W' ∧ W' (n / 4) = v % 4294967296 ∧ ∀ k, k ≠ n / 4 → W' k = W k) := by
  unfold Con
  intro dp un gd cn cs a ccd cl outer A₀ base h₀ L m s mean mg mb Q E B F X N T hk hdp hun hp hret
  walk_at "my_enter"
  intro g' L' h' FG' F' N' B' X' T' kG'
  (try dsimp only)
  (try k_fold)
  have hp := hp.sub kG' (.cons (N.get (.head _)) (mut_words hW) .nil)
  have hM := hp
  refine MemAt.elim hp ?_; intro dx k1 k2 t1 t2 t3 hx hdx lo
  k_steps
  all_goals (refine hret _ _ _ (by k_asm) (gsub_end kG' (by k_asm)) ⟨rfl, _, _, News.get (by k_asm) (.head _), by assumption, updW_same _ _ _, fun k hk => updW_ne _ _ hk⟩)
theorem reg_02_14 : True := by (k_with "call ref!" => ((with_reducible show wpAny _ _ (call (Value.ref 608) _) _ _ _); k_dflt (refine use1m (by k_asm) (by k_asm) (by k_asm) (by k_asm) (by k_asm) (by first | exact rfl | assumption) (by ktr_room) (by ktr_units) (U := by k_updF) (C := con_put_word _ _ _ _ _ (by assumption) _ _ _ _ (by first | with_reducible assumption | decide | omega)) (hp := by walk_at "my_mem") (ret := ?_); intro h9q tk9q o9q W9q F9q N9q hP9q; have hW9q := hP9q.1; have hS9q := hP9q.2.1; have hE9q := hP9q.2.2; clear hP9q; (try dsimp only at N9q); walk_at "my_z"))); trivial
theorem upd_eq {W W' : Int → Int} {j v : Int} (h1 : W' j = v) (h2 : ∀ k, k ≠ j → W' k = W k) : W' = updW W j v := by
  funext k
  unfold updW
  by_cases e : k = j
  · rw [if_pos e, e, h1]
  · rw [if_neg e, h2 k e]
theorem arg_step {W W' : Int → Int} {j k v : Int} (h : ∀ i, i ≠ j → W' i = W i) (hk : k ≠ j) (e : W k = v) : W' k = v := (h k hk).trans e
theorem nat_split (x k : Nat) (hx : x < 2 ^ 32) (hk : k < 2 ^ 32) : (x &&& k) + (x &&& (2 ^ 32 - (k + 1))) = x := by
  have h1 : (x &&& k) ||| (x &&& (2 ^ 32 - (k + 1))) = x := by
    apply Nat.eq_of_testBit_eq
    intro i
    simp only [Nat.testBit_or, Nat.testBit_and, Nat.testBit_two_pow_sub_succ hk]
    cases hxi : x.testBit i with
    | false => simp
    | true =>
      have : i < 32 := by
        refine Classical.byContradiction fun q => ?_
        have := Nat.testBit_lt_two_pow (x := x) (i := i) (Nat.lt_of_lt_of_le hx (Nat.pow_le_pow_right (by decide) (by omega)))
        rw [this] at hxi; cases hxi
      simp [this]
  have h2 : (x &&& k) &&& (x &&& (2 ^ 32 - (k + 1))) = 0 := by
    apply Nat.eq_of_testBit_eq
    intro i
    simp only [Nat.testBit_and, Nat.testBit_two_pow_sub_succ hk, Nat.zero_testBit]
    cases k.testBit i <;> simp
  have h3 := nat_or_add_and (x &&& k) (x &&& (2 ^ 32 - (k + 1)))
  omega
theorem nat_field (x s : Nat) : x &&& (255 <<< s) = (x / 2 ^ s % 256) * 2 ^ s := by
  rw [← Nat.shiftLeft_eq, ← Nat.shiftRight_eq_div_pow, show 256 = 2 ^ 8 from rfl, show 255 = 2 ^ 8 - 1 from rfl]
  apply Nat.eq_of_testBit_eq
  intro i
  simp only [Nat.testBit_and, Nat.testBit_shiftLeft, Nat.testBit_two_pow_sub_one, Nat.testBit_mod_two_pow, Nat.testBit_shiftRight]
  by_cases h : s ≤ i
  · rw [show s + (i - s) = i by omega]; simp only [h, decide_true, Bool.true_and]; exact Bool.and_comm _ _
  · simp [h]
theorem nat_put (x b s : Nat) (hx : x < 2 ^ 32) (hb : b < 256) (hs : s ≤ 24) :
    (x &&& (4294967295 - 255 * 2 ^ s)) ||| (b * 2 ^ s) = x - (x / 2 ^ s % 256) * 2 ^ s + b * 2 ^ s := by
  have hk : 255 <<< s < 2 ^ 32 := by
    rw [Nat.shiftLeft_eq]
    have : 2 ^ s ≤ 2 ^ 24 := Nat.pow_le_pow_right (by decide) hs
    omega
  have h1 := nat_split x (255 <<< s) hx hk
  rw [nat_field] at h1
  have e : 4294967295 - 255 * 2 ^ s = 2 ^ 32 - (255 <<< s + 1) := by rw [Nat.shiftLeft_eq]; omega
  have h2 : (x &&& (2 ^ 32 - (255 <<< s + 1))) &&& (b * 2 ^ s) = 0 := by
    rw [← Nat.shiftLeft_eq b]
    apply Nat.eq_of_testBit_eq
    intro i
    simp only [Nat.testBit_and, Nat.testBit_two_pow_sub_succ hk, Nat.testBit_shiftLeft, Nat.zero_testBit]
    by_cases h : s ≤ i
    · by_cases q : i - s < 8
      · have h255 : Nat.testBit 255 (i - s) = true := by rw [show 255 = 2 ^ 8 - 1 from rfl, Nat.testBit_two_pow_sub_one]; simpa using q
        simp [h, h255]
      · rw [Nat.testBit_lt_two_pow (x := b) (i := i - s) (Nat.lt_of_lt_of_le hb (Nat.pow_le_pow_right (show 2 > 0 by decide) (show 8 ≤ i - s by omega) : 2 ^ 8 ≤ 2 ^ (i - s)))]
        simp
    · simp [h]
  have h3 := nat_or_add_and (x &&& (2 ^ 32 - (255 <<< s + 1))) (b * 2 ^ s)
  rw [e]
  omega
theorem nat_byte (x b i j : Nat) (hx : x < 2 ^ 32) (hb : b < 256) (hi : i < 4) (hj : j < 4) :
    ((x &&& (4294967295 - 255 * 2 ^ (8 * i))) ||| (b * 2 ^ (8 * i))) / 2 ^ (8 * j) % 256 = if j = i then b else x / 2 ^ (8 * j) % 256 := by
  have hk : 255 <<< (8 * i) < 2 ^ 32 := by
    rw [Nat.shiftLeft_eq]
    have : 2 ^ (8 * i) ≤ 2 ^ 24 := Nat.pow_le_pow_right (by decide) (by omega)
    omega
  have e : 4294967295 - 255 * 2 ^ (8 * i) = 2 ^ 32 - (255 <<< (8 * i) + 1) := by rw [Nat.shiftLeft_eq]; omega
  rw [e, ← Nat.shiftLeft_eq b, ← Nat.shiftRight_eq_div_pow, ← Nat.shiftRight_eq_div_pow, show 256 = 2 ^ 8 from rfl]
  apply Nat.eq_of_testBit_eq
  intro k
  by_cases h8 : k < 8
  · have h255 : Nat.testBit 255 k = true := by rw [show 255 = 2 ^ 8 - 1 from rfl, Nat.testBit_two_pow_sub_one]; simpa using h8
    by_cases q : j = i
    · subst q
      rw [if_pos rfl]
      rw [Nat.testBit_mod_two_pow, Nat.testBit_shiftRight, Nat.testBit_or, Nat.testBit_and, Nat.testBit_two_pow_sub_succ hk, Nat.testBit_shiftLeft, Nat.testBit_shiftLeft, Nat.add_sub_cancel_left, h255, decide_eq_true h8, decide_eq_true (Nat.le_add_right (8 * j) k)]
      simp
    · rw [if_neg q]
      have h32 : 8 * j + k < 32 := by omega
      have hz : Nat.testBit (b <<< (8 * i)) (8 * j + k) = false ∧ Nat.testBit (255 <<< (8 * i)) (8 * j + k) = false := by
        rw [Nat.testBit_shiftLeft, Nat.testBit_shiftLeft]
        by_cases g : 8 * i ≤ 8 * j + k
        · have h2 : 2 ^ 8 ≤ 2 ^ (8 * j + k - 8 * i) := Nat.pow_le_pow_right (by decide) (by omega)
          rw [Nat.testBit_lt_two_pow (Nat.lt_of_lt_of_le hb h2), Nat.testBit_lt_two_pow (Nat.lt_of_lt_of_le (by decide : 255 < 2 ^ 8) h2)]
          simp
        · simp [g]
      rw [Nat.testBit_mod_two_pow, Nat.testBit_mod_two_pow, Nat.testBit_shiftRight, Nat.testBit_shiftRight, Nat.testBit_or, Nat.testBit_and, Nat.testBit_two_pow_sub_succ hk, hz.1, hz.2, decide_eq_true h8, decide_eq_true h32]
      simp
  · have hf : ∀ y : Nat, Nat.testBit (y % 2 ^ 8) k = false := fun y => by rw [Nat.testBit_mod_two_pow]; simp [h8]
    rw [hf]
    split
    · exact (Nat.testBit_lt_two_pow (Nat.lt_of_lt_of_le hb (Nat.pow_le_pow_right (show 2 > 0 by decide) (show 8 ≤ k by omega) : 2 ^ 8 ≤ 2 ^ k))).symm
    · exact (hf _).symm
/-- the word with its byte at the place s (0, 8, 16, 24) put -/
noncomputable def setB (x s b : Int) : Int := x - (x / 2 ^ s.toNat % 256) * 2 ^ s.toNat + b * 2 ^ s.toNat
theorem int_put (x b : Int) (s : Nat) (hx : 0 ≤ x ∧ x < 4294967296) (hb : 0 ≤ b ∧ b < 256) (hs : s ≤ 24) :
    Builtin.bitOr (Builtin.bitAnd x (4294967295 - 255 * 2 ^ s)) (b * 2 ^ s) = setB x s b := by
  obtain ⟨x, rfl⟩ := Int.eq_ofNat_of_zero_le hx.1
  obtain ⟨b, rfl⟩ := Int.eq_ofNat_of_zero_le hb.1
  have hp : 255 * 2 ^ s ≤ 4294967295 := by
    have : 2 ^ s ≤ 2 ^ 24 := Nat.pow_le_pow_right (by decide) hs
    omega
  have e1 : (4294967295 - 255 * 2 ^ s : Int) = ((4294967295 - 255 * 2 ^ s : Nat) : Int) := by
    rw [Int.ofNat_sub hp]; simp
  have e2 : ((b : Int) * 2 ^ s) = ((b * 2 ^ s : Nat) : Int) := by simp
  rw [e1, e2, bitAnd_pp (by omega) (by omega), Int.toNat_natCast, Int.toNat_natCast]
  have h := nat_put x b s (by omega) (by omega) hs
  have h3 : ∀ m n : Nat, Builtin.bitOr (m : Int) n = ((m ||| n : Nat) : Int) := fun m n => by
    rw [bitOr_and, bitAnd_pp (by omega) (by omega), Int.toNat_natCast, Int.toNat_natCast]
    have := nat_or_add_and m n
    omega
  rw [h3, h]
  unfold setB
  have hle : x / 2 ^ s % 256 * 2 ^ s ≤ x := Nat.le_trans (Nat.mul_le_mul_right _ (Nat.mod_le _ _)) (Nat.div_mul_le_self _ _)
  rw [Int.natCast_add, Int.ofNat_sub hle]
  simp
theorem setB_range (x b : Int) (i : Int) (hx : 0 ≤ x ∧ x < 4294967296) (hb : 0 ≤ b ∧ b < 256) (hi : i = 0 ∨ i = 1 ∨ i = 2 ∨ i = 3) : 0 ≤ setB x (8 * i) b ∧ setB x (8 * i) b < 4294967296 := by
  unfold setB
  rcases hi with rfl | rfl | rfl | rfl <;> simp <;> omega
theorem setB_byte (x b : Int) (i j : Int) (hx : 0 ≤ x ∧ x < 4294967296) (hb : 0 ≤ b ∧ b < 256) (hi : 0 ≤ i ∧ i < 4) (hj : 0 ≤ j ∧ j < 4) :
    setB x (8 * i) b / 2 ^ (8 * j).toNat % 256 = if j = i then b else x / 2 ^ (8 * j).toNat % 256 := by
  obtain ⟨x, rfl⟩ := Int.eq_ofNat_of_zero_le hx.1
  obtain ⟨b, rfl⟩ := Int.eq_ofNat_of_zero_le hb.1
  obtain ⟨i, rfl⟩ := Int.eq_ofNat_of_zero_le hi.1
  obtain ⟨j, rfl⟩ := Int.eq_ofNat_of_zero_le hj.1
  have h := nat_byte x b i j (by omega) (by omega) (by omega) (by omega)
  rw [nat_put x b (8 * i) (by omega) (by omega) (by omega)] at h
  have hle : x / 2 ^ (8 * i) % 256 * 2 ^ (8 * i) ≤ x := Nat.le_trans (Nat.mul_le_mul_right _ (Nat.mod_le _ _)) (Nat.div_mul_le_self _ _)
  have h := congrArg (fun n : Nat => (n : Int)) h
  have e1 : (8 * (i : Int)).toNat = 8 * i := by omega
  have e2 : (8 * (j : Int)).toNat = 8 * j := by omega
  unfold setB
  rw [e1, e2]
  by_cases q : j = i
  · rw [if_pos q] at h
    rw [if_pos (by rw [q])]
    simpa [Int.natCast_add, Int.ofNat_sub hle] using h
  · rw [if_neg q] at h
    rw [if_neg (by omega)]
    simpa [Int.natCast_add, Int.ofNat_sub hle] using h
theorem byteAt_put (W : Int → Int) (n b : Int) (hW : ∀ k, 0 ≤ W k ∧ W k < 4294967296) (hb : 0 ≤ b ∧ b < 256) (a : Int) :
    byteAt (updW W (n / 4) (setB (W (n / 4)) (8 * (n % 4)) b)) a = if a = n then b else byteAt W a := by
  unfold byteAt updW
  by_cases h : a / 4 = n / 4
  · rw [if_pos h, setB_byte _ _ _ _ (hW _) hb (by omega) (by omega), h]
    by_cases e : a % 4 = n % 4
    · rw [if_pos e, if_pos (by omega)]
    · rw [if_neg e, if_neg (fun q => e (by rw [q]))]
  · rw [if_neg h, if_neg (fun q => h (by rw [q]))]
theorem put_val (x v n : Int) (hx : 0 ≤ x ∧ x < 4294967296) :
    Builtin.bitOr (Builtin.bitAnd x (4294967296 - 1 - 255 * 2 ^ (8 * (n % 4)).toNat)) (v % 256 * 2 ^ (8 * (n % 4)).toNat) % 4294967296 = setB x (8 * (n % 4)) (v % 256) := by
  have hb : 0 ≤ v % 256 ∧ v % 256 < 256 := by omega
  have h := int_put x (v % 256) (8 * (n % 4)).toNat hx hb (by omega)
  have e : (4294967296 - 1 : Int) = 4294967295 := rfl
  rw [e, h, Int.toNat_of_nonneg (by omega)]
  have := setB_range x (v % 256) (n % 4) hx hb (by omega)
  omega
theorem put_fin {W W' : Int → Int} {n v : Int} (hW : ∀ k, 0 ≤ W k ∧ W k < 4294967296)
    (h1 : W' (n / 4) = Builtin.bitOr (Builtin.bitAnd (W (n / 4)) (4294967296 - 1 - 255 * 2 ^ (8 * (n % 4)).toNat)) (v % 256 * 2 ^ (8 * (n % 4)).toNat) % 4294967296) (h2 : ∀ k, k ≠ n / 4 → W' k = W k) (a : Int) :
    byteAt W' a = if a = n then v % 256 else byteAt W a := by
  rw [upd_eq h1 h2, put_val _ _ _ (hW _)]
  exact byteAt_put W n (v % 256) hW (by omega) a
theorem con_put_byte (w : World) (x wd : Addr) (wo : Obj) (W : Int → Int) (hW : Words w wo W) (n v : Int) (tn tv : Tok) (hn : 0 ≤ n ∧ n < 912) :
    Con w 9 622 [.ref x, .int n tn, .int v tv] [(wd, wo)] (fun h => MemAt h x wd) (fun _ r h' => r = .none ∧ ∃ wo' W', h'.get? wd = some wo' ∧ Words w wo' W' ∧ (∀ a, byteAt W' a = if a = n then v % 256 else byteAt W a) ∧ ∀ k, k ≠ n / 4 → W' k = W k) := by
  unfold Con
  intro dp un gd cn cs a ccd cl outer A₀ base h₀ L m s mean mg mb Q E B F X N T hk hdp hun hp hret
  walk_at "my_enter"
  intro g' L' h' FG' F' N' B' X' T' kG'
  (try dsimp only)
  (try k_fold)
  have hp := hp.sub kG' (.cons (N.get (.head _)) (mut_words hW) .nil)
  have hM := hp
  refine MemAt.elim hp ?_; intro dx k1 k2 t1 t2 t3 hx hdx lo
  k_steps
  all_goals (
    refine hret _ _ _ (by k_asm) (gsub_end kG' (by k_asm)) ⟨rfl, _, _, News.get (by k_asm) (.head _), by assumption, ?_, ?_⟩
    · exact put_fin hW.range (by assumption) (by assumption)
    · assumption)
theorem reg_02_15 : True := by (k_with "call ref!" => ((with_reducible show wpAny _ _ (call (Value.ref 622) _) _ _ _); k_dflt (refine use1m (by k_asm) (by k_asm) (by k_asm) (by k_asm) (by k_asm) (by first | exact rfl | assumption) (by ktr_room) (by ktr_units) (U := by k_updF) (C := con_put_byte _ _ _ _ _ (by assumption) _ _ _ _ (by first | with_reducible assumption | decide | omega)) (hp := by walk_at "my_mem") (ret := ?_); intro h9q tk9q o9q W9q F9q N9q hP9q; have hW9q := hP9q.1; have hB9q := hP9q.2.1; have hE9q := hP9q.2.2; clear hP9q; (try dsimp only at N9q); walk_at "my_z"))); trivial
/-- the row of drawn ints -/
noncomputable def RowOk (o : Obj) : Prop := ∃ (vs : List Value) (ns : List Int) (n : Nat), o = { cls := .type "list", data := .seq vs.toArray n } ∧ IntsAre vs ns ∧ (∀ x ∈ ns, 0 ≤ x ∧ x < 1024) ∧ ns.length ≤ 1020
theorem reg_03_1 : True := by (k_with "call builtin:list.pop!" => (k_dflt (refine kpa_pop (by k_asm) (by k_asm) (by k_upd) (by assumption) (by omega) (by rw [PySem.sizeLine_eq]; omega) ?_); intro h9q t9q F9q N9q hI9q; (try dsimp only [List.nil_append, List.cons_append] at N9q); (try k_sweep); (try dsimp only))); trivial
theorem last_in {ns : List Int} (h : 0 < ns.length) : ns.getLastD 0 ∈ ns := by
  cases ns with
  | nil => cases h
  | cons x r => rw [List.getLastD_cons]; exact List.getLastD_mem_cons
theorem con_next (w : World) (rw : Addr) (ro : Obj) (hR : RowOk ro) :
    Con w 3 810 [.ref rw] [(rw, ro)] (fun _ => True) (fun _ r h' => ∃ i t, r = .int i t ∧ (0 ≤ i ∧ i < 1024) ∧ ∃ ro', h'.get? rw = some ro' ∧ RowOk ro') := by
  unfold Con
  intro dp un gd cn cs a ccd cl outer A₀ base h₀ L m s mean mg mb Q E B F X N T hk hdp hun hp hret
  walk_at "my_enter"
  intro g' L' h' FG' F' N' B' X' T' kG'
  (try dsimp only)
  (try k_fold)
  obtain ⟨vs, ns, n, rfl, hI, hns, hlen⟩ := hR
  have hIl := hI.length
  k_steps
  · refine hret _ _ _ (by k_asm) (gsub_end kG' (by k_asm)) ⟨_, _, rfl, hns _ (last_in (by assumption)), _, News.get (by k_asm) (.head _), _, _, _, rfl, by assumption, fun x hx => hns x (List.dropLast_subset _ hx), ?_⟩
    rw [List.length_dropLast]; omega
  · exact hret _ _ _ (by k_asm) (gsub_end kG' (by k_asm)) ⟨_, _, rfl, by decide, _, News.get (by k_asm) (.head _), _, _, _, rfl, hI, hns, hlen⟩
theorem reg_03_2 : True := by (k_with "call ref!" => ((with_reducible show wpAny _ _ (call (Value.ref 810) _) _ _ _); k_dflt (refine use1v (by k_asm) (by k_asm) (by k_asm) (by k_asm) (by k_asm) (by first | exact rfl | assumption) (by ktr_room) (by ktr_units) (U := by k_updF) (C := con_next _ _ _ (by assumption)) (hp := trivial) (ret := ?_); intro i9q t9q h9q tk9q o9q F9q N9q hi9q hR9q; (try dsimp only at N9q); walk_at "my_z"))); trivial
theorem menu_in (k x : Int) (hk : 0 ≤ k ∧ k < 5) (hx : 0 ≤ x ∧ x < 1024) : -2147483649 ≤ [2147483647, -2147483648, 2147483648, -2147483649, x * 2 ^ Int.toNat 40].getD k.toNat 0 ∧
    [2147483647, -2147483648, 2147483648, -2147483649, x * 2 ^ Int.toNat 40].getD k.toNat 0 < 2251799813685248 := by
  have e : (2 : Int) ^ Int.toNat 40 = 1099511627776 := by decide
  rw [e]
  have h : k = 0 ∨ k = 1 ∨ k = 2 ∨ k = 3 ∨ k = 4 := by omega
  rcases h with rfl | rfl | rfl | rfl | rfl <;> simp <;> omega
theorem con_whole (w : World) (rw : Addr) (ro : Obj) (hR : RowOk ro) :
    Con w 6 817 [.ref rw] [(rw, ro)] (fun _ => True) (fun _ r h' => ∃ i t, r = .int i t ∧ (-2147483649 ≤ i ∧ i < 2251799813685248) ∧ ∃ ro', h'.get? rw = some ro' ∧ RowOk ro') := by
  unfold Con
  intro dp un gd cn cs a ccd cl outer A₀ base h₀ L m s mean mg mb Q E B F X N T hk hdp hun hp hret
  walk_at "my_enter"
  intro g' L' h' FG' F' N' B' X' T' kG'
  (try dsimp only)
  (try k_fold)
  k_steps
  all_goals (refine hret _ _ _ (by k_asm) (gsub_end kG' (by k_asm)) ⟨_, _, rfl, ?_, _, News.get (by k_asm) (by k_mem), by assumption⟩)
  · omega
  · exact menu_in _ _ (by omega) (by assumption)
theorem reg_03_3 : True := by (k_with "call ref!" => ((with_reducible show wpAny _ _ (call (Value.ref 817) _) _ _ _); k_dflt (refine use1v (by k_asm) (by k_asm) (by k_asm) (by k_asm) (by k_asm) (by first | exact rfl | assumption) (by ktr_room) (by ktr_units) (U := by k_updF) (C := con_whole _ _ _ (by assumption)) (hp := trivial) (ret := ?_); intro i9q t9q h9q tk9q o9q F9q N9q hi9q hR9q; (try dsimp only at N9q); walk_at "my_z"))); trivial
section
variable {prog : Program} {w : World} {A₀ A : Around} {s : Shared} {base h₀ : Heap} {outer : List Env} {L : Addr} {m : Str → Option Value} {env : Env} {news : Led} {K : Frag} {p : Program} {loose : List Str} {mean : ExcName → Option Value} {mg mb : Str → Option Value}
  {R : Result → Shared → Prop} {name qual : Str} {params : Arguments} {body : List Stmt} {scope : Scope} {dV kV doc pm cdv ct oc : Value} {an od : Option Addr} {osl : Array (Option Value)} {f : Addr} {args : Args} {binds : List (Str × Value)}
/-- a def with cells is entered; what is not of the ledger stays in the new ground -/
theorem enter_cells (B : Below A₀ base outer h₀) (F : Fr h₀ L s.heap m) (X₀ : K.In h₀) (N : News h₀ L s.heap news) (T : Top p loose mean mg mb h₀) (hA : A.frames = some (env :: outer)) (hf : env.frame = some L) (hke : env.scope.kind = .function)
    (ho : K.lookup f = some ⟨oc, od, .func (fnOf name qual params body scope dV kV doc pm an cdv ct), osl⟩) (hcd : codeIn K cdv qual = true) (hroom : A.depth < recursionLimit)
    (hbind : BindsTo s (fnOf name qual params body scope dV kV doc pm an cdv ct) args binds) (hkind : (binds.all fun y => scope.names.lookup y.1 == some .local || scope.names.lookup y.1 == some .cell) = true)
    (hnd : ((cellsFrom 0 scope.names []).map (·.1)).Nodup)
    (h : ∀ g L' h₁ tk cells, Fr h₀ L g m → Fr g L' h₁ (bindL (envOfC qual scope L' f cdv).kindOf binds fun _ => none) → News g L' h₁ (cells ++ news) →
      CellsAre (bindC (envOfC qual scope L' f cdv).kindOf binds fun _ => none) (cellsFrom (L' + 1) scope.names []) cells → Below A base (env :: outer) g → K.In g → Top p loose mean mg mb g → (∀ p ∈ news, p.1 < L') → GSub s.heap g (news.map (·.1)) →
      wpAny (model prog w) (A.deeper (envOfC qual scope L' f cdv)) (execs body (envOfC qual scope L' f cdv))
        (fun fl s' => LeaveK h₀ L m g R (match fl with | .ret v => v | _ => .none) s')
        (fun e s' => wpAny (model prog w) (A.deeper (envOfC qual scope L' f cdv)) (leaving (envOfC qual scope L' f cdv) e) (fun _ s'' => R (.error e) s'') (fun e' s'' => R (.error e') s'') s')
        { s with heap := h₁, toks := tk })
    (hco : scope.isCoroutine = false) (hgen : scope.isGenerator = false) (hk : scope.kind = .function) : codeAny (model prog w) A (.call (.ref f) args) R s := by
  obtain ⟨FG, BG, st, lv⟩ := groundX (R := R) B F N hA hf hke
  have XH := X₀.keeps F.keep
  refine codeAny_call_function hroom (XH _ _ ho) rfl hco hgen rfl (codeRec_of XH hcd) (hbind _ _ _ _ ?_)
  refine wpAny_newFunctionEnv_cells hk (kindsX hkind _) fun env' he s' x => ?_
  subst he
  refine ⟨(T.nolimit.keeps F.keep).keeps x.toInCall.keep, codeAny_func ?_⟩
  obtain ⟨h₁, tk, rfl, -⟩ := x.done
  have up := x.toInCall.keep
  have hids : ((cellsFrom (s.heap.objs.size + 1) scope.names []).map (·.1)).Nodup := cellsFrom_names scope.names 0 (s.heap.objs.size + 1) [] [] rfl ▸ hnd
  obtain ⟨cells, NC, Y⟩ := Cl.news (h₀ := s.heap) (Nat.le_refl _) fun n c hm => ⟨x.cell n c (lookup_of_mem_nodup hids hm), x.above n c hm⟩
  have FF : Fr (hideAll s.heap (news.map (·.1))) s.heap.objs.size h₁ _ := ⟨x.toInCall.ns, fun b o e => up b o (of_hideAll _ e), Nat.le_of_eq (hideAll_size _ _)⟩
  have gone : ∀ b, s.heap.get? b = none → (hideAll s.heap (news.map (·.1))).get? b = none := fun b e => by
    cases q : (hideAll s.heap (news.map (·.1))).get? b with
    | none => rfl
    | some o => rw [of_hideAll _ q] at e; cases e
  have NN : News (hideAll s.heap (news.map (·.1))) s.heap.objs.size h₁ (cells ++ news) := fun q hq => by
    rcases List.mem_append.mp hq with hq | hq
    · exact ⟨(NC q hq).1, (NC q hq).2.1, gone _ (NC q hq).2.2⟩
    · exact ⟨up _ _ (N q hq).1, Nat.ne_of_lt (Heap.lt_size (N q hq).1), hideAll_none _ (List.mem_map_of_mem hq)⟩
  exact wpAny_mono (h _ _ h₁ tk cells FG FF NN Y BG (X₀.keeps st) (T.keeps st) (fun q hq => Heap.lt_size (N q hq).1) (fun b o e n => hideAll_get _ e n)) (fun fl s' hl => lv _ _ hl) fun _ _ y => y
end
theorem reg_03_4 : True := by (k_with "my_enterC" => (refine wpAny_call ?_; (refine' enter_cells ?k1 ?k2 ?k3 ?k4 ?k5 ?kA ?kF ?kK ?k6 ?k7 ?k8 ?k9q ?kB ?kD ?_ ?c2 ?c3 ?c4; (case kA => exact rfl); (case kF => exact rfl); (case kK => assumption); (case k1 => k_asm); (case k2 => k_asm); (case k3 => k_asm); (case k4 => k_asm); (case k5 => k_asm); (case k6 => k_is); (case k7 => k_is); (case k8 => ktr_room); (case k9q => exact BindsTo.of_eq rfl); (case kB => exact rfl); (case kD => decide +kernel); (case c2 => exact rfl); (case c3 => exact rfl); (case c4 => exact rfl); k_whole))); trivial
theorem updF_same {d : Addr} {o : Obj} {l : Led} {g : Obj → Led} (U : UpdF d o l g) : g o = l := by
  obtain ⟨pre, post, e, hg, _⟩ := U.split
  rw [hg, e]
theorem comp_row {prog : Program} {w : World} {A : Around} {h₀ : Heap} {L : Addr} {m : Str → Option Value} {env : Env} {elt : Expr} {x : Str} {scope : Scope} {cl : List (Str × Addr)} {s : Shared} {S : Led → Prop} {P : Nat → Value → Prop} {Fin : List Value → Led → Prop} {news : Led} {n : Nat} {rw : Addr} {ro : Obj} {g : Obj → Led}
    (J : Nat → Obj → List Value → Prop) (h0 : J 0 ro []) (_hm : (rw, ro) ∈ news) (U : UpdF rw ro news g)
    (turn : ∀ i σ ys v I oI C oC D m₂ h tk (E' : Value → Shared → Prop), i < n → P i v → J i σ ys → LCg.NsObj oC m₂ → m₂ x = some v → Fr h₀ L h m → News h₀ L h ((I, oI) :: (C, oC) :: (D, LCg.lst ys) :: g σ) → LCg.Off3 I C D (g σ) → ((@Ne Nat I C) ∧ (@Ne Nat I D) ∧ (@Ne Nat C D)) →
      wpAny (model prog w) A (eval elt (compEnvC scope cl C env)) (LCg.CompEnd h₀ L m { s with heap := h, toks := tk } I oI C oC D (LCg.lst ys) S (fun y news' => ∃ σ', news' = g σ' ∧ J (i + 1) σ' (ys ++ [y]))) E' { s with heap := h, toks := tk })
    (fin : ∀ σ ys, J n σ ys → Fin ys (g σ)) : LCg.CompRest prog w A h₀ L m env elt x scope cl s S P Fin n 0 [] news := by
  have key : ∀ (j i : Nat) (σ : Obj) (ys : List Value), i + j = n → J i σ ys → LCg.CompRest prog w A h₀ L m env elt x scope cl s S P Fin j i ys (g σ) := by
    intro j
    induction j with
    | zero => exact fun i σ ys hi hJ => LCg.CompRest.zero (fin σ ys ((show i = n by omega) ▸ hJ))
    | succ j ih =>
      intro i σ ys hi hJ
      refine LCg.CompRest.succ fun v I oI C oC D m₂ h tk E' hv hC hx F N off ne => ?_
      refine wpAny_mono (turn i σ ys v I oI C oC D m₂ h tk E' (by omega) hv hJ hC hx F N off ne) (fun y s₂ hq => ?_) fun _ _ e => e
      obtain ⟨h', tk', nw, e, F', N', off', hS, σ', hn, hJ'⟩ := hq
      subst hn
      exact ⟨h', tk', _, e, F', N', off', hS, ih (i + 1) σ' _ (by omega) hJ'⟩
  exact updF_same U ▸ key n 0 ro [] (by omega) h0
theorem IntsAre.snoc {ys : List Value} {ns : List Int} (h : IntsAre ys ns) (k : Int) (t : Tok) : IntsAre (ys ++ [.int k t]) (ns ++ [k]) := IntsAre.append h (.cons k t .nil)
theorem snoc_ints {P : Int → Prop} {ys : List Value} {ns : List Int} {i : Nat} {k : Int} {t : Tok} (h : IntsAre ys ns) (hn : ∀ x ∈ ns, P x) (hl : ns.length = i) (hk : P k) : ∃ ns', IntsAre (ys ++ [.int k t]) ns' ∧ (∀ x ∈ ns', P x) ∧ ns'.length = i + 1 :=
  ⟨ns ++ [k], IntsAre.append h (.cons k t .nil), fun x hx => by rcases List.mem_append.mp hx with q | q; exact hn x q; exact (List.mem_singleton.mp q) ▸ hk, by rw [List.length_append, hl]; rfl⟩
theorem letter_in (i : Int) : 0 ≤ [(0 : Int), 97, 98, 200].getD (i % 4).toNat 0 ∧ [(0 : Int), 97, 98, 200].getD (i % 4).toNat 0 < 256 := by
  have h : i % 4 = 0 ∨ i % 4 = 1 ∨ i % 4 = 2 ∨ i % 4 = 3 := by omega
  rcases h with e | e | e | e <;> rw [e] <;> decide
/-- letters -/
noncomputable def LetOk (ns : List Int) : Prop := (∀ x ∈ ns, 0 ≤ x ∧ x < 256) ∧ 1 ≤ ns.length ∧ ns.length ≤ 7
theorem reg_03_5 : True := by (k_with "CompSrc!" => (k_dflt (refine LCg.CompSrc.range (by rfl) (by k_asm) (by k_asm) (by assumption) (small_one (by omega) (by omega) (by omega) (by omega)) (by first | exact rangeSize_nat _ _ | rfl) (by rw [PySem.sizeLine_eq]; omega) ?_); intro g'; k_dflt (refine comp_row (fun i σ ys => RowOk σ ∧ ∃ ns, IntsAre ys ns ∧ (∀ x ∈ ns, 0 ≤ x ∧ x < 256) ∧ ns.length = i) ⟨by assumption, [], .nil, (fun _ h => nomatch h), rfl⟩ (by k_mem) (by k_updF) ?_ ?_); (intro i9q σ9q ys9q v9q I9q oI9q C9q oC9q D9q m9q h9q tk9q E9q hi9q hv9q ⟨hR9q, ns9q, hI9q, hn9q, hl9q⟩ hC9q hx9q F9q N9q off9q ne9q; (try dsimp only at N9q off9q); (try simp only [LCg.Off3, and_true] at off9q); (try k_fold)); rotate_left; (intro σ9q ys9q ⟨hR9q, ns9q, hI9q, hn9q, hl9q⟩; (try dsimp only)); rotate_left)); trivial
theorem reg_03_6 : True := by (k_with "CompEnd!" => (k_dflt (refine LCg.CompEnd.intro (by assumption) (by assumption) _ (by kcf_all) (by first | assumption | (simp only [LCg.Off3, and_true]; assumption)) trivial ⟨_, rfl, by assumption, snoc_ints (by assumption) (by assumption) (by assumption) (letter_in _)⟩))); trivial
theorem con_letters (w : World) (rw : Addr) (ro : Obj) (hR : RowOk ro) :
    Con w 9 822 [.ref rw] [(rw, ro)] (fun _ => True) (fun h r h' => ∃ a vs ns n, r = .ref a ∧ h.get? a = none ∧ h'.get? a = some { cls := .type "list", data := .seq vs.toArray n } ∧ IntsAre vs ns ∧ LetOk ns ∧ ∃ ro', h'.get? rw = some ro' ∧ RowOk ro') := by
  unfold Con
  intro dp un gd cn cs a ccd cl outer A₀ base h₀ L m s mean mg mb Q E B F X N T hk hdp hun hp hret
  walk_at "my_enterC"
  intro g' L' h' tk' cells' FG' F' N' Y' B' X' T' l1 kG'
  (try (replace l1 := allLt_of l1; simp only [AllLt, and_true] at l1))
  k_cells Y'
  (try simp only [List.cons_append, List.nil_append] at N')
  (try dsimp only)
  (try k_fold)
  k_steps
  all_goals exact hret _ _ _ (by k_asm) (gsub_end kG' (by k_asm)) ⟨_, _, _, _, rfl, fresh_of kG' (by k_asm) (.head _) (by simp only [List.map_cons, List.map_nil, List.mem_singleton]; exact (show @Ne Nat _ _ by walk_at "my_neq")), News.get (by k_asm) (.head _), by assumption, ⟨by assumption, by omega, by omega⟩, _, News.get (by k_asm) (by k_mem), by assumption⟩
noncomputable abbrev machE (K : Int × Int × Int × Int × Int × Int × Int × Int × Int × Int × Int) (T : Tok × Tok × Tok × Tok × Tok × Tok × Tok × Tok × Tok × Tok × Tok) (V : Value × Value × Value × Value × Value × Value) (v : Value) (mem cpu mo mg : Addr) : List DictEntry := [⟨K.1, .str (Str.ofString "data_top") (T.1), V.1⟩, ⟨K.2.1, .str (Str.ofString "data_limit") (T.2.1), V.2.1⟩, ⟨K.2.2.1, .str (Str.ofString "stack_low") (T.2.2.1), v⟩, ⟨K.2.2.2.1, .str (Str.ofString "memory") (T.2.2.2.1), .ref mem⟩, ⟨K.2.2.2.2.1, .str (Str.ofString "heap") (T.2.2.2.2.1), V.2.2.1⟩, ⟨K.2.2.2.2.2.1, .str (Str.ofString "cpu") (T.2.2.2.2.2.1), .ref cpu⟩, ⟨K.2.2.2.2.2.2.1, .str (Str.ofString "loaded") (T.2.2.2.2.2.2.1), V.2.2.2.1⟩, ⟨K.2.2.2.2.2.2.2.1, .str (Str.ofString "out") (T.2.2.2.2.2.2.2.1), .ref mo⟩, ⟨K.2.2.2.2.2.2.2.2.1, .str (Str.ofString "given") (T.2.2.2.2.2.2.2.2.1), .ref mg⟩, ⟨K.2.2.2.2.2.2.2.2.2.1, .str (Str.ofString "limit") (T.2.2.2.2.2.2.2.2.2.1), V.2.2.2.2.1⟩, ⟨K.2.2.2.2.2.2.2.2.2.2, .str (Str.ofString "steps") (T.2.2.2.2.2.2.2.2.2.2), V.2.2.2.2.2⟩]
/-- a Machine: its memory, cpu, out, given -/
noncomputable def MachAt (h : Heap) (x mem cpu mo mg : Addr) : Prop :=
  ∃ (dx : Addr) (K : Int × Int × Int × Int × Int × Int × Int × Int × Int × Int × Int) (T : Tok × Tok × Tok × Tok × Tok × Tok × Tok × Tok × Tok × Tok × Tok) (V : (Value × Value × Value × Value × Value × Value) × Value), h.get? x = some (instObj 792 dx) ∧ h.get? dx = some (dictOf (machE K T V.1 V.2 mem cpu mo mg) 11)
theorem MachAt.elim {h : Heap} {x mem cpu mo mg : Addr} {P : Prop} (H : MachAt h x mem cpu mo mg) (k : ∀ dx K T (V : (Value × Value × Value × Value × Value × Value) × Value), h.get? x = some (instObj 792 dx) → h.get? dx = some (dictOf (machE K T V.1 V.2 mem cpu mo mg) 11) → P) : P := by
  obtain ⟨dx, K, T, V, a, b⟩ := H
  exact k dx K T V a b
theorem MachAt.keep {h₀ h : Heap} {L : Addr} {m : Str → Option Value} {x mem cpu mo mg : Addr} (M : MachAt h₀ x mem cpu mo mg) (F : Fr h₀ L h m) : MachAt h x mem cpu mo mg := by
  obtain ⟨dx, K, T, V, a, b⟩ := M
  exact ⟨dx, K, T, V, F.keep _ _ a, F.keep _ _ b⟩
theorem MachAt.sub {h g : Heap} {x mem cpu mo mg : Addr} {adr : List Addr} (H : MachAt h x mem cpu mo mg) (G : GSub h g adr) (M : Mut h adr) : MachAt g x mem cpu mo mg := by
  obtain ⟨dx, K, T, V, a, b⟩ := H
  obtain ⟨a, b⟩ := attr_sub G M a b rfl rfl
  exact ⟨dx, K, T, V, a, b⟩
noncomputable abbrev cpuE (K : Int × Int × Int × Int × Int × Int × Int × Int × Int) (T : Tok × Tok × Tok × Tok × Tok × Tok × Tok × Tok × Tok) (V : Value × Value × Value × Value × Value × Value × Value) (v : Value) (rg : Addr) : List DictEntry := [⟨K.1, .str (Str.ofString "memory") (T.1), V.1⟩, ⟨K.2.1, .str (Str.ofString "regs") (T.2.1), .ref rg⟩, ⟨K.2.2.1, .str (Str.ofString "h") (T.2.2.1), V.2.1⟩, ⟨K.2.2.2.1, .str (Str.ofString "n") (T.2.2.2.1), V.2.2.1⟩, ⟨K.2.2.2.2.1, .str (Str.ofString "z") (T.2.2.2.2.1), V.2.2.2.1⟩, ⟨K.2.2.2.2.2.1, .str (Str.ofString "c") (T.2.2.2.2.2.1), V.2.2.2.2.1⟩, ⟨K.2.2.2.2.2.2.1, .str (Str.ofString "v") (T.2.2.2.2.2.2.1), V.2.2.2.2.2.1⟩, ⟨K.2.2.2.2.2.2.2.1, .str (Str.ofString "pc") (T.2.2.2.2.2.2.2.1), V.2.2.2.2.2.2⟩, ⟨K.2.2.2.2.2.2.2.2, .str (Str.ofString "rows") (T.2.2.2.2.2.2.2.2), v⟩]
/-- a Cpu: its registers -/
noncomputable def CpuAt (h : Heap) (x rg : Addr) : Prop :=
  ∃ (dx : Addr) (K : Int × Int × Int × Int × Int × Int × Int × Int × Int) (T : Tok × Tok × Tok × Tok × Tok × Tok × Tok × Tok × Tok) (V : (Value × Value × Value × Value × Value × Value × Value) × Value), h.get? x = some (instObj 562 dx) ∧ h.get? dx = some (dictOf (cpuE K T V.1 V.2 rg) 9)
theorem CpuAt.elim {h : Heap} {x rg : Addr} {P : Prop} (H : CpuAt h x rg) (k : ∀ dx K T (V : (Value × Value × Value × Value × Value × Value × Value) × Value), h.get? x = some (instObj 562 dx) → h.get? dx = some (dictOf (cpuE K T V.1 V.2 rg) 9) → P) : P := by
  obtain ⟨dx, K, T, V, a, b⟩ := H
  exact k dx K T V a b
theorem CpuAt.keep {h₀ h : Heap} {L : Addr} {m : Str → Option Value} {x rg : Addr} (M : CpuAt h₀ x rg) (F : Fr h₀ L h m) : CpuAt h x rg := by
  obtain ⟨dx, K, T, V, a, b⟩ := M
  exact ⟨dx, K, T, V, F.keep _ _ a, F.keep _ _ b⟩
theorem CpuAt.sub {h g : Heap} {x rg : Addr} {adr : List Addr} (H : CpuAt h x rg) (G : GSub h g adr) (M : Mut h adr) : CpuAt g x rg := by
  obtain ⟨dx, K, T, V, a, b⟩ := H
  obtain ⟨a, b⟩ := attr_sub G M a b rfl rfl
  exact ⟨dx, K, T, V, a, b⟩
noncomputable abbrev hostE (K : Int × Int × Int × Int × Int × Int × Int × Int × Int × Int × Int × Int × Int × Int) (T : Tok × Tok × Tok × Tok × Tok × Tok × Tok × Tok × Tok × Tok × Tok × Tok × Tok × Tok) (V : Value × Value × Value × Value × Value × Value × Value × Value × Value × Value × Value × Value) (ho hg : Addr) : List DictEntry := [⟨K.1, .str (Str.ofString "limit") (T.1), V.1⟩, ⟨K.2.1, .str (Str.ofString "steps") (T.2.1), V.2.1⟩, ⟨K.2.2.1, .str (Str.ofString "depth") (T.2.2.1), V.2.2.1⟩, ⟨K.2.2.2.1, .str (Str.ofString "most_depth") (T.2.2.2.1), V.2.2.2.1⟩, ⟨K.2.2.2.2.1, .str (Str.ofString "count") (T.2.2.2.2.1), V.2.2.2.2.1⟩, ⟨K.2.2.2.2.2.1, .str (Str.ofString "globals") (T.2.2.2.2.2.1), V.2.2.2.2.2.1⟩, ⟨K.2.2.2.2.2.2.1, .str (Str.ofString "procs") (T.2.2.2.2.2.2.1), V.2.2.2.2.2.2.1⟩, ⟨K.2.2.2.2.2.2.2.1, .str (Str.ofString "out") (T.2.2.2.2.2.2.2.1), .ref ho⟩, ⟨K.2.2.2.2.2.2.2.2.1, .str (Str.ofString "given") (T.2.2.2.2.2.2.2.2.1), .ref hg⟩, ⟨K.2.2.2.2.2.2.2.2.2.1, .str (Str.ofString "tracer") (T.2.2.2.2.2.2.2.2.2.1), V.2.2.2.2.2.2.2.1⟩, ⟨K.2.2.2.2.2.2.2.2.2.2.1, .str (Str.ofString "value_of") (T.2.2.2.2.2.2.2.2.2.2.1), V.2.2.2.2.2.2.2.2.1⟩, ⟨K.2.2.2.2.2.2.2.2.2.2.2.1, .str (Str.ofString "call") (T.2.2.2.2.2.2.2.2.2.2.2.1), V.2.2.2.2.2.2.2.2.2.1⟩, ⟨K.2.2.2.2.2.2.2.2.2.2.2.2.1, .str (Str.ofString "execute") (T.2.2.2.2.2.2.2.2.2.2.2.2.1), V.2.2.2.2.2.2.2.2.2.2.1⟩, ⟨K.2.2.2.2.2.2.2.2.2.2.2.2.2, .str (Str.ofString "host") (T.2.2.2.2.2.2.2.2.2.2.2.2.2), V.2.2.2.2.2.2.2.2.2.2.2⟩]
/-- a BareRun: its out, given -/
noncomputable def HostAt (h : Heap) (x ho hg : Addr) : Prop :=
  ∃ (dx : Addr) (K : Int × Int × Int × Int × Int × Int × Int × Int × Int × Int × Int × Int × Int × Int) (T : Tok × Tok × Tok × Tok × Tok × Tok × Tok × Tok × Tok × Tok × Tok × Tok × Tok × Tok) (V : Value × Value × Value × Value × Value × Value × Value × Value × Value × Value × Value × Value), h.get? x = some (instObj 174 dx) ∧ h.get? dx = some (dictOf (hostE K T V ho hg) 14)
theorem HostAt.elim {h : Heap} {x ho hg : Addr} {P : Prop} (H : HostAt h x ho hg) (k : ∀ dx K T V, h.get? x = some (instObj 174 dx) → h.get? dx = some (dictOf (hostE K T V ho hg) 14) → P) : P := by
  obtain ⟨dx, K, T, V, a, b⟩ := H
  exact k dx K T V a b
theorem HostAt.keep {h₀ h : Heap} {L : Addr} {m : Str → Option Value} {x ho hg : Addr} (M : HostAt h₀ x ho hg) (F : Fr h₀ L h m) : HostAt h x ho hg := by
  obtain ⟨dx, K, T, V, a, b⟩ := M
  exact ⟨dx, K, T, V, F.keep _ _ a, F.keep _ _ b⟩
theorem HostAt.sub {h g : Heap} {x ho hg : Addr} {adr : List Addr} (H : HostAt h x ho hg) (G : GSub h g adr) (M : Mut h adr) : HostAt g x ho hg := by
  obtain ⟨dx, K, T, V, a, b⟩ := H
  obtain ⟨a, b⟩ := attr_sub G M a b rfl rfl
  exact ⟨dx, K, T, V, a, b⟩
noncomputable abbrev heldE (K : Int × Int × Int × Int) (T : Tok × Tok × Tok × Tok) (V : Value × Value × Value) (cd : Addr) : List DictEntry := [⟨K.1, .str (Str.ofString "level") (T.1), V.1⟩, ⟨K.2.1, .str (Str.ofString "link") (T.2.1), V.2.1⟩, ⟨K.2.2.1, .str (Str.ofString "module") (T.2.2.1), V.2.2⟩, ⟨K.2.2.2, .str (Str.ofString "cells") (T.2.2.2), .ref cd⟩]
/-- a Frame: its cells -/
noncomputable def HeldAt (h : Heap) (x cd : Addr) : Prop :=
  ∃ (dx : Addr) (K : Int × Int × Int × Int) (T : Tok × Tok × Tok × Tok) (V : Value × Value × Value), h.get? x = some (instObj 111 dx) ∧ h.get? dx = some (dictOf (heldE K T V cd) 4)
theorem HeldAt.elim {h : Heap} {x cd : Addr} {P : Prop} (H : HeldAt h x cd) (k : ∀ dx K T V, h.get? x = some (instObj 111 dx) → h.get? dx = some (dictOf (heldE K T V cd) 4) → P) : P := by
  obtain ⟨dx, K, T, V, a, b⟩ := H
  exact k dx K T V a b
theorem HeldAt.keep {h₀ h : Heap} {L : Addr} {m : Str → Option Value} {x cd : Addr} (M : HeldAt h₀ x cd) (F : Fr h₀ L h m) : HeldAt h x cd := by
  obtain ⟨dx, K, T, V, a, b⟩ := M
  exact ⟨dx, K, T, V, F.keep _ _ a, F.keep _ _ b⟩
theorem HeldAt.sub {h g : Heap} {x cd : Addr} {adr : List Addr} (H : HeldAt h x cd) (G : GSub h g adr) (M : Mut h adr) : HeldAt g x cd := by
  obtain ⟨dx, K, T, V, a, b⟩ := H
  obtain ⟨a, b⟩ := attr_sub G M a b rfl rfl
  exact ⟨dx, K, T, V, a, b⟩
/-- the registers: sixteen ints, the stack pointer 688 -/
noncomputable def RegOk (o : Obj) (r0 : Int) : Prop := ∃ (vs : List Value) (ns : List Int) (n : Nat), o = { cls := .type "list", data := .seq vs.toArray n } ∧ IntsAre vs ns ∧ ns.length = 16 ∧ ns.getD 14 0 = 688 ∧ ns.getD 0 0 = r0
section
variable {w : World} {A : Around} {E : Value → Shared → Prop} {s : Shared} {h₀ : Heap} {L d : Addr} {m : Str → Option Value} {news news' : Led} {g : Obj → Led} {o : Obj} {r0 k x : Int} {t tx t0 u : Tok}
theorem regs_sp {value slice : Expr} {Q : Value → Shared → Prop} (hg : s.heap.get? d = some o) (hR : RegOk o r0) (h : ∀ t, Q (.int 688 t) s)
    (hs : subscripted slice false (.ref d) (.int 14 u) = operate [.ref d, .int 14 u] (getItem (.ref d) (.int 14 u)) := by with_unfolding_all rfl) :
    wpAny (model PySem.Challenge.rw_pb0380_01.row.prog w) A (subscriptTail value slice (.ref d) (.int 14 u)) Q E s := by
  obtain ⟨vs, ns, n, rfl, hi, hl, h14, -⟩ := hR
  refine item_anyK (PySem.IsL.isList (n := n) hg) hi (by decide) (by omega) (by decide) (fun t => ?_) hs
  have e : (14 : Int).toNat = 14 := rfl
  rw [e, h14]
  exact h t
theorem regs_zero {value slice : Expr} {Q : Value → Shared → Prop} (hg : s.heap.get? d = some o) (hR : RegOk o r0) (h : ∀ t, Q (.int r0 t) s)
    (hs : subscripted slice false (.ref d) (.int 0 u) = operate [.ref d, .int 0 u] (getItem (.ref d) (.int 0 u)) := by with_unfolding_all rfl) :
    wpAny (model PySem.Challenge.rw_pb0380_01.row.prog w) A (subscriptTail value slice (.ref d) (.int 0 u)) Q E s := by
  obtain ⟨vs, ns, n, rfl, hi, hl, -, h0⟩ := hR
  refine item_anyK (PySem.IsL.isList (n := n) hg) hi (by decide) (by omega) (by decide) (fun t => ?_) hs
  have e : (0 : Int).toNat = 0 := rfl
  rw [e, h0]
  exact h t
theorem regs_set {Q : Unit → Shared → Prop} (F : Fr h₀ L s.heap m) (N : News h₀ L s.heap news) (hR : RegOk o r0) (U : UpdF d o news g) (h : ∀ h' o', Fr h₀ L h' m → News h₀ L h' (g o') → RegOk o' x → Q () { s with heap := h' }) :
    wpAny (model PySem.Challenge.rw_pb0380_01.row.prog w) A (setItem (.ref d) (.int 0 t) (.int x tx)) Q E s := by
  obtain ⟨vs, ns, n, rfl, hi, hl, h14, h0⟩ := hR
  have U2 : ∀ o', Upd d (listOf vs.toArray n) o' news (g o') := fun o' => by
    clear h F N hi
    induction U with
    | head a => exact .head a
    | tail a _ ih => exact .tail a ih
  refine ksa_set F N (U2 _) hi (by decide) (by omega) (by decide) fun h' F' N' hi' hl' _ => h h' _ F' N' ⟨_, _, _, rfl, hi', by omega, ?_, ?_⟩
  · rw [← h14]
    simp [List.getD_eq_getElem?_getD]
  · cases ns with
    | nil => cases hl
    | cons a r => rfl
end
/-- the whole machine: its memory and words, cpu and registers, out, given -/
noncomputable def BoxAt (h : Heap) (x mem cpu rg wd mo mg : Addr) : Prop := MachAt h x mem cpu mo mg ∧ CpuAt h cpu rg ∧ MemAt h mem wd
theorem BoxAt.keep {h₀ h : Heap} {L : Addr} {m : Str → Option Value} {x mem cpu rg wd mo mg : Addr} (M : BoxAt h₀ x mem cpu rg wd mo mg) (F : Fr h₀ L h m) : BoxAt h x mem cpu rg wd mo mg := ⟨M.1.keep F, M.2.1.keep F, M.2.2.keep F⟩
theorem BoxAt.sub {h g : Heap} {x mem cpu rg wd mo mg : Addr} {adr : List Addr} (H : BoxAt h x mem cpu rg wd mo mg) (G : GSub h g adr) (M : Mut h adr) : BoxAt g x mem cpu rg wd mo mg := ⟨H.1.sub G M, H.2.1.sub G M, H.2.2.sub G M⟩
theorem BoxAt.parts {h : Heap} {x mem cpu rg wd mo mg : Addr} (H : BoxAt h x mem cpu rg wd mo mg) : MachAt h x mem cpu mo mg ∧ CpuAt h cpu rg ∧ MemAt h mem wd := H
theorem reg_04_1 : True := by (k_with "my_box" => exact BoxAt.keep (by assumption) (by k_asm)); trivial
theorem reg_04_2 : True := by (k_with "subscriptTail!" => ((first | ((with_reducible show wpAny _ _ (subscriptTail _ _ (Value.ref _) (Value.int 14 _)) _ _ _); refine regs_sp (by walk_at "my_base") (by assumption) ?_ (by with_unfolding_all rfl)) | ((with_reducible show wpAny _ _ (subscriptTail _ _ (Value.ref _) (Value.int 0 _)) _ _ _); refine regs_zero (by walk_at "my_base") (by assumption) ?_ (by with_unfolding_all rfl)) | ((with_reducible show wpAny _ _ (subscriptTail _ _ (Value.ref _) (Value.int _ _)) _ _ _); refine item_anyK (PySem.IsL.isList (by walk_at "my_base")) (by assumption) (by omega) (by omega) (by omega) ?_ (by with_unfolding_all rfl))); intro t9q; (try dsimp only))); trivial
theorem con_argument (w : World) (x mem cpu rg wd mo mg : Addr) (wo ro : Obj) (W : Int → Int) (r0 : Int) (hW : Words w wo W) (hR : RegOk ro r0) (k v : Int) (tk : Tok) (hk : 0 ≤ k ∧ k < 4) (hv : W (172 + k) = v) :
    Con w 9 643 [.ref x, .int k tk] [] (fun h => BoxAt h x mem cpu rg wd mo mg ∧ h.get? wd = some wo ∧ h.get? rg = some ro) (fun _ r _ => ∃ t, r = .int v t) := by
  unfold Con
  intro dp un gd cn cs a ccd cl outer A₀ base h₀ L m s mean mg' mb Q E B F X N T hck hdp hun hp hret
  walk_at "my_enter"
  intro g' L' h' FG' F' N' B' X' T' kG'
  (try dsimp only)
  (try k_fold)
  have hwd := kG' _ _ hp.2.1 (by simp)
  have hrg := kG' _ _ hp.2.2 (by simp)
  have hMa := (hp.1.sub kG' Mut.nil).1
  have hCp := (hp.1.sub kG' Mut.nil).2.1
  have hMe := (hp.1.sub kG' Mut.nil).2.2
  have hM1 := hMe
  refine MachAt.elim hMa ?_; intro dx K T V hx hdx
  refine CpuAt.elim hCp ?_; intro dc K2 T2 V2 hc hdc
  refine MemAt.elim hMe ?_; intro dm m0 m1 s0 s1 s2 hm hdm lo
  k_steps
  all_goals (refine hret _ _ _ (by k_asm) (gsub_end kG' (by k_asm)) (ret_int ?_); rw [show (688 + 4 * k) / 4 = 172 + k by omega, hv])
section
variable {prog : Program} {w : World} {A : Around} {E : Value → Shared → Prop} {s : Shared} {env : Env} {h₀ : Heap} {x : Str} {body : List Stmt} {Q : Flow → Shared → Prop}
/-- a loop over a range by an invariant: st are the names that a turn stores beside the loop's own -/
theorem range_inv {σ : Type} {r : Addr} {a₀ b₀ : Int} {t₀ u₀ v₀ : Tok} {n : Nat} {m₀ : Str → Option Value} {news : Led} (Ld : σ → Led) (I : Nat → σ → Prop) (st : List Str) (c₀ : σ)
    (hr : IsRange s.heap r a₀ b₀ 1 t₀ u₀ v₀) (hh : A.handled = none) (hsmall : Builtin.Range.small a₀ b₀ 1 = true) (hn : Builtin.Range.rangeSize a₀ b₀ 1 = (n : Int)) (F : Fr h₀ env.locals s.heap m₀) (N : News h₀ env.locals s.heap news) (h0 : I 0 c₀) (hl0 : Ld c₀ = news)
    (hadr : ∀ a, (Ld a).map (·.1) = news.map (·.1))
    (turn : ∀ (i : Nat) (t : Tok) (a : σ) (u : Str → Option Value) (h : Heap) (tk : Nat) (own : Led), i < n → OwnOff own (news.map (·.1)) → I i a → Fr h₀ env.locals h (fun y => if y = x then some (.int (a₀ + (i : Int)) t) else if st.contains y then u y else m₀ y) → News h₀ env.locals h (Ld a ++ own) →
      wpAny (model prog w) A (execs body env) (InvPostN h₀ env.locals (fun m' nx => (∀ z, z ≠ x → st.contains z = false → m' z = m₀ z) ∧ ∃ a', nx = Ld a' ∧ I (i + 1) a') own (news.map (·.1)) { s with heap := h, toks := tk } Q) E { s with heap := h, toks := tk })
    (done : ∀ (a : σ) (u : Str → Option Value) (h : Heap) (tk : Nat), I n a → Fr h₀ env.locals h (fun y => if y = x then u y else if st.contains y then u y else m₀ y) → News h₀ env.locals h (Ld a) → Q .next { s with heap := h, toks := tk }) :
    wpAny (model prog w) A (pyIter (.ref r)) (fun it s₂ => LoopAtV prog w A h₀ env x body Q E it s₂) E s := by
  refine wpAny_pyIter_range hr hsmall ?_
  have W : Walks prog w A s.heap.objs.size [s.heap.objs.size] [s.heap.objs.size] n (fun i v => i < n ∧ ∃ t, v = .int (a₀ + i * 1) t)
      (fun i h => IsRangeIter h s.heap.objs.size (a₀ + (i : Nat) * 1) ((n : Int) - (i : Nat)) 1) := (Walks.range hh _ a₀ 1 n).bound
  have hsz : ∀ p ∈ news, p.1 ∉ [s.heap.objs.size] := fun p hp hI => absurd (Heap.lt_size (N p hp).1) ((List.mem_singleton.mp hI) ▸ Nat.lt_irrefl _)
  refine loop_invN (fun i m nx => (∀ z, z ≠ x → st.contains z = false → m z = m₀ z) ∧ ∃ a', nx = Ld a' ∧ I i a') W (fun hm => absurd F.ns.lt ((List.mem_singleton.mp hm) ▸ Nat.lt_irrefl _)) (fun b hb => by rw [List.mem_singleton.mp hb]; exact next_is_new F) hsz hsz
    (by show IsRangeIter _ _ _ _ _; rw [hn]; simpa using Heap.get?_push_size _ rfl) (F.push _) (fun p hp => ⟨Heap.get?_push_of_some _ (N p hp).1, (N p hp).2⟩) ⟨fun _ _ _ => rfl, c₀, hl0.symm, h0⟩ ?_ ?_
  · rintro i v m₁ news₁ h tk own hi ⟨-, t, rfl⟩ - hoff ⟨hm, a, rfl, ha⟩ F₁ N₁
    have e : (fun y => if y = x then some (Value.int (a₀ + (i : Int) * 1) t) else m₁ y) = fun y => if y = x then some (Value.int (a₀ + (i : Int)) t) else if st.contains y then m₁ y else m₀ y := by
      funext y
      by_cases h1 : y = x
      · simp [h1]
      · cases h2 : st.contains y with
        | true => simp [h1]
        | false => simp only [if_neg h1]; rw [hm y h1 h2]; simp
    rw [e] at F₁
    exact turn i t a m₁ h tk own hi hoff ha F₁ N₁
  · rintro m₁ nx h tk ⟨hm, a, rfl, ha⟩ F₁ N₁
    refine done a m₁ h tk ha ?_ N₁
    have e : (fun y => if y = x then m₁ y else if st.contains y then m₁ y else m₀ y) = m₁ := by
      funext y
      by_cases h1 : y = x
      · simp [h1]
      · cases h2 : st.contains y with
        | true => simp
        | false => simp only [if_neg h1]; rw [hm y h1 h2]; simp
    rw [e]; exact F₁
end
theorem reg_05_1 : True := by (k_with "call ref!" => ((with_reducible show wpAny _ _ (call (Value.ref 643) _) _ _ _); k_dflt (refine use0v (by k_asm) (by k_asm) (by k_asm) (by k_asm) (by k_asm) (by first | exact rfl | assumption) (by ktr_room) (by ktr_units) (C := con_argument _ _ _ _ _ _ _ _ _ _ _ _ (by assumption) (by assumption) _ _ _ (by first | with_reducible assumption | omega) (by first | assumption | exact arg_step (by assumption) (by first | with_reducible assumption | omega) (by assumption))) (hp := ⟨by walk_at "my_box", by walk_at "my_base", by walk_at "my_base"⟩) (ret := ?_); intro t9q h9q tk9q F9q N9q; walk_at "my_z"))); trivial
theorem reg_05_2 : True := by (k_with "call builtin:len!" => ((with_reducible show wpAny _ _ (call _ [Value.ref _]) _ _ _); k_dflt (refine len_ints_fit (PySem.IsL.isList (by walk_at "my_base")) (by assumption) (by omega) ?_))); trivial
theorem off_words {w : World} {h : Heap} {a wd : Addr} {wo o : Obj} {W : Int → Int} {vs : Array Value} {n : Nat} (hW : Words w wo W) (e : h.get? a = some o) (ho : o = { cls := .type "list", data := .seq vs n }) (e2 : h.get? wd = some wo) : a ∉ [wd] := by
  intro q
  rw [List.mem_singleton.mp q, e2] at e
  obtain ⟨kvs, ⟨es, ep, hx, hd, -⟩, -⟩ := hW
  rw [Option.some.inj e, ho] at hd
  cases hd
/-- the words with the ints ns put at the stack pointer -/
noncomputable def putW (W : Int → Int) (ns : List Int) (i : Nat) : Int → Int := fun j => if 172 ≤ j ∧ j < 172 + (i : Int) then ns.getD (j - 172).toNat 0 % 4294967296 else W j
theorem putW_zero (W : Int → Int) (ns : List Int) : putW W ns 0 = W := by
  funext j; unfold putW; rw [if_neg (by omega)]
theorem putW_succ (W : Int → Int) (ns : List Int) (i : Nat) : updW (putW W ns i) (172 + (i : Int)) (ns.getD i 0 % 4294967296) = putW W ns (i + 1) := by
  funext j
  unfold updW putW
  by_cases e : j = 172 + (i : Int)
  · subst e
    rw [if_pos rfl, if_pos (by omega)]
    congr 2; omega
  · rw [if_neg e]
    by_cases h : 172 ≤ j ∧ j < 172 + (i : Int)
    · rw [if_pos h, if_pos (by omega)]
    · rw [if_neg h, if_neg (by omega)]
theorem reg_05_3 : True := by (k_with "call type:range!" => ((rename Fr _ _ _ _ => F9q); (rename News _ _ _ _ => N9q); (with_unfolding_all (first | refine range1_rows F9q N9q ?_ | refine range2_rows F9q N9q ?_)); intro _ _ _ _ _ _ _ _ _; (try dsimp only))); trivial
theorem reg_05_4 : True := by (k_with "exec For Name Call cons nil!" => ((rename Fr _ _ _ _ => F9q); (with_unfolding_all refine For_invVF F9q (by rfl) (by rfl) ?_))); trivial
theorem reg_05_5 : True := by (k_with "my_turn" => ((try simp only [List.cons_append, List.nil_append] at *); (try dsimp only); (try k_fold))); trivial
theorem reg_05_6 : True := by (k_with "my_stored" => (intro z h1 h2; first | rfl | (simp [h1]; done) | (simp_all; done))); trivial
noncomputable def Halt (P : Prop) : Prop := P
theorem Halt.out {P : Prop} (h : Halt P) : P := h
theorem reg_05_7 : True := by (k_with "pyIter ref!" => ((with_reducible show wpAny _ _ (pyIter (Value.ref _)) (fun it s₂ => LoopAtV _ _ _ _ _ _ _ _ _ it s₂) _ _); refine Halt.out ?_)); trivial
theorem reg_05_8 : True := by (k_with "my_range" => (first | exact small_one (by omega) (by omega) (by omega) (by omega) | exact rangeSize_nat _ _)); trivial
theorem Words.of_eq {w : World} {o : Obj} {W W' : Int → Int} (h : Words w o W) (e : W = W') : Words w o W' := e ▸ h
theorem reg_05_9 : True := by (k_with "my_own" => (intro p hp; repeat (first | exact hp | apply List.mem_cons_of_mem))); trivial
theorem con_put (w : World) (x mem cpu rg wd mo mg l : Addr) (wo ro : Obj) (W : Int → Int) (r0 : Int) (hW : Words w wo W) (hR : RegOk ro r0) (vs : List Value) (ns : List Int) (nl : Nat) :
    Con w 12 829 [.ref x, .ref l] [(wd, wo)] (fun h => BoxAt h x mem cpu rg wd mo mg ∧ h.get? rg = some ro ∧ h.get? l = some { cls := .type "list", data := .seq vs.toArray nl } ∧ IntsAre vs ns ∧ ns.length ≤ 4)
      (fun _ r h' => r = .none ∧ ∃ wo', h'.get? wd = some wo' ∧ Words w wo' (putW W ns ns.length)) := by
  unfold Con
  intro dp un gd cn cs a ccd cl outer A₀ base h₀ L m s mean mg' mb Q E B F X N T hck hdp hun ⟨hp1, hp2, hp3, hI, hl⟩ hret
  have hp := And.intro hp1 (And.intro hp2 hp3)
  walk_at "my_enter"
  intro g' L' h' FG' F' N' B' X' T' kG'
  (try dsimp only)
  (try k_fold)
  have hMut : Mut s.heap ([(wd, wo)].map (·.1)) := .cons (N.get (.head _)) (mut_words hW) .nil
  have hrg : g'.get? rg = some ro := by
    obtain ⟨_, _, _, e, _⟩ := hR
    exact kG' _ _ hp.2.1 (off_words hW hp.2.1 e (N.get (.head _)))
  have hll : g'.get? l = some { cls := .type "list", data := .seq vs.toArray nl } := by
    exact kG' _ _ hp.2.2 (off_words hW hp.2.2 rfl (N.get (.head _)))
  have hBx := hp.1.sub kG' hMut
  have hMa := hBx.1; have hCp := hBx.2.1; have hMe := hBx.2.2
  have hM1 := hMe
  refine MachAt.elim hMa ?_; intro dx K T V hx hdx
  refine CpuAt.elim hCp ?_; intro dc K2 T2 V2 hc hdc
  refine MemAt.elim hMe ?_; intro dm m0 m1 s0 s1 s2 hm hdm lo
  have hIl := hI.length
  k_steps
  unfold Halt
  refine range_inv (σ := Obj) (fun a => [(wd, a)]) (fun i a => Words w a (putW W ns i)) [] wo (by assumption) (by rfl) (by walk_at "my_range") (by walk_at "my_range") (by k_asm) (by k_asm) (by rw [putW_zero]; assumption) rfl (fun _ => rfl) ?_ ?_
  · intro i9 t9 a9 u9 h9 tk9 own9 hi9 off9 hW9 F9 N9
    walk_at "my_turn"
    k_steps
    have e1 : ((688 + 4 * (0 + (i9 : Int))) / 4 : Int) = 172 + (i9 : Int) := by omega
    have e2 : (0 + (i9 : Int)).toNat = i9 := by omega
    exact InvEndN.intro (nx := [(wd, o9q)]) F9q N9q ⟨by walk_at "my_stored", o9q, rfl, hW9q.of_eq (by rw [upd_eq hS9q hE9q, e1, e2, putW_succ])⟩ rfl (by kcf_all) (by walk_at "my_own")
  · intro a9 u9 h9 tk9 hW9 F9 N9
    walk_at "my_turn"
    have e2 : ((ns.length : Int) - 0).toNat = ns.length := by omega
    rw [e2] at hW9
    k_steps
    all_goals exact hret _ _ _ (by k_asm) (gsub_end kG' (by k_asm)) ⟨rfl, _, News.get (by k_asm) (.head _), hW9⟩
theorem reg_05_10 : True := by (k_with "my_ints" => first | assumption | exact .cons _ _ .nil | exact .cons _ _ (.cons _ _ .nil) | exact .cons _ _ (.cons _ _ (.cons _ _ (.cons _ _ .nil)))); trivial
local macro_rules | `(tactic| k_room) => `(tactic| ktr_room)
section
variable {prog : Program} {w : World} {A : Around} {E : Value → Shared → Prop} {s : Shared} {env : Env} {h₀ : Heap} {x : Str} {body : List Stmt} {Q : Flow → Shared → Prop}
/-- the same where one object of the ledger turns -/
theorem range_inv1 {r : Addr} {a₀ b₀ : Int} {t₀ u₀ v₀ : Tok} {n : Nat} {m₀ : Str → Option Value} {news : Led} {d : Addr} {o : Obj} {g : Obj → Led} (I : Nat → Obj → Prop) (st : List Str) (F : Fr h₀ env.locals s.heap m₀) (N : News h₀ env.locals s.heap news) (h0 : I 0 o) (_hm : (d, o) ∈ news) (U : UpdF d o news g)
    (hr : IsRange s.heap r a₀ b₀ 1 t₀ u₀ v₀) (hh : A.handled = none) (hsmall : Builtin.Range.small a₀ b₀ 1 = true) (hn : Builtin.Range.rangeSize a₀ b₀ 1 = (n : Int))
    (turn : ∀ (i : Nat) (t : Tok) (a : Obj) (u : Str → Option Value) (h : Heap) (tk : Nat) (own : Led), i < n → OwnOff own (news.map (·.1)) → I i a → Fr h₀ env.locals h (fun y => if y = x then some (.int (a₀ + (i : Int)) t) else if st.contains y then u y else m₀ y) → News h₀ env.locals h (g a ++ own) →
      wpAny (model prog w) A (execs body env) (InvPostN h₀ env.locals (fun m' nx => (∀ z, z ≠ x → st.contains z = false → m' z = m₀ z) ∧ ∃ a', nx = g a' ∧ I (i + 1) a') own (news.map (·.1)) { s with heap := h, toks := tk } Q) E { s with heap := h, toks := tk })
    (done : ∀ (a : Obj) (u : Str → Option Value) (h : Heap) (tk : Nat), I n a → Fr h₀ env.locals h (fun y => if y = x then u y else if st.contains y then u y else m₀ y) → News h₀ env.locals h (g a) → Q .next { s with heap := h, toks := tk }) :
    wpAny (model prog w) A (pyIter (.ref r)) (fun it s₂ => LoopAtV prog w A h₀ env x body Q E it s₂) E s :=
  range_inv g I st o hr hh hsmall hn F N h0 (updF_same U) (fun a => by
    obtain ⟨pre, post, rfl, hg, _⟩ := U.split
    rw [hg]; simp) turn done
end
/-- the cells of an array: the ints ns at 0 .. i-1 -/
noncomputable def CellOk (w : World) (o : Obj) (ns : List Int) (i : Nat) : Prop :=
  ∃ kvs : List (Int × Value), o.IsDictOf (intKind PySem.Challenge.rw_pb0380_01.row.prog w) kvs ∧ kvs.length ≤ i ∧ ∀ k : Int, 0 ≤ k → k < (i : Int) → ∃ t, valueAt kvs k = some (.int (ns.getD k.toNat 0) t)
section
variable {w : World} {A : Around} {E : Value → Shared → Prop} {s : Shared} {h₀ : Heap} {L d : Addr} {m : Str → Option Value} {news : Led} {g : Obj → Led} {o : Obj} {ns : List Int} {i : Nat} {k x : Int} {t tx t0 : Tok}
theorem cells_set {Q : Unit → Shared → Prop} (F : Fr h₀ L s.heap m) (N : News h₀ L s.heap news) (U : UpdF d o news g) (hW : CellOk w o ns i) (hk : k = (i : Int)) (hx : x = ns.getD i 0) (hi : i ≤ 1000)
    (h : ∀ h' o', Fr h₀ L h' m → News h₀ L h' (g o') → CellOk w o' ns (i + 1) → Q () { s with heap := h', toks := s.toks + 1 }) :
    wpAny (model PySem.Challenge.rw_pb0380_01.row.prog w) A (setItem (.ref d) (.int k t) (.int x tx)) Q E s := by
  obtain ⟨kvs, hd, hl, hv⟩ := hW
  refine kda_set (knd := intKind _ _) F N U hd (intKind_is _ _ _ _) (by rw [sizeLine_eq]; omega) fun h' o' F' N' hd' => h h' o' F' N' ⟨_, hd', Nat.le_trans (stored_length_le _ _ _) (by omega), ?_⟩
  intro j h0 h1
  rw [valueAt_store]
  by_cases e : j = k
  · rw [if_pos e, e, hk, hx]; exact ⟨tx, by simp⟩
  · rw [if_neg e]; exact hv j h0 (by omega)
theorem cells_get0 {Q : Value → Shared → Prop} (hg : s.heap.get? d = some o) (hW : CellOk w o ns i) (lo : d ≠ sysModules) (h0 : 0 ≤ k) (h1 : k < (i : Int)) (h : ∀ t, Q (.int (ns.getD k.toNat 0) t) { s with toks := s.toks + 1 }) :
    wpAny (model PySem.Challenge.rw_pb0380_01.row.prog w) A (call (.builtin "dict.get") [.ref d, .int k t, .int 0 t0]) Q E s := by
  obtain ⟨kvs, hd, _, hv⟩ := hW
  have hD : s.heap.DictOf (intKind PySem.Challenge.rw_pb0380_01.row.prog w) d kvs := Heap.dictOf_iff.mpr ⟨o, hg, hd⟩
  refine call_meetsIn PySem.F.slot_dict_get hD.typeIs PySem.F.entry_dict_get (PySem.F.args_dict_get_3 _ _ _) (meets_dict_get_default _ d (intKind_is _ _ _ _) (by simpa using lo) _) ⟨_, hD.mapOf, ?_⟩
  obtain ⟨t, e⟩ := hv k h0 h1
  rw [e]; exact h t
end
/-- the bytes with the ints ns put from p on -/
noncomputable def BytesPut (W W' : Int → Int) (p : Int) (ns : List Int) (i : Nat) : Prop := ∀ a, byteAt W' a = if p ≤ a ∧ a < p + (i : Int) then ns.getD (a - p).toNat 0 else byteAt W a
theorem BytesPut.zero (W : Int → Int) (p : Int) (ns : List Int) : BytesPut W W p ns 0 := fun a => by rw [if_neg (by omega)]
theorem BytesPut.succ {W W' W'' : Int → Int} {p : Int} {ns : List Int} {i : Nat} (h : BytesPut W W' p ns i) (hb : 0 ≤ ns.getD i 0 ∧ ns.getD i 0 < 256) (h2 : ∀ a, byteAt W'' a = if a = p + (i : Int) then ns.getD i 0 % 256 else byteAt W' a) : BytesPut W W'' p ns (i + 1) := fun a => by
  rw [h2 a]
  by_cases e : a = p + (i : Int)
  · rw [if_pos e, if_pos (by omega), Int.emod_eq_of_lt hb.1 hb.2]
    congr 1; omega
  · rw [if_neg e, h a]
    by_cases q : p ≤ a ∧ a < p + (i : Int)
    · rw [if_pos q, if_pos (by omega)]
    · rw [if_neg q, if_neg (by omega)]
theorem letok_get {ns : List Int} (h : LetOk ns) (i : Nat) : 0 ≤ ns.getD i 0 ∧ ns.getD i 0 < 256 := by
  by_cases q : i < ns.length
  · rw [List.getD_eq_getElem?_getD, List.getElem?_eq_getElem q]
    exact h.1 _ (List.getElem_mem _)
  · rw [List.getD_eq_getElem?_getD, List.getElem?_eq_none (by omega)]
    decide
theorem reg_06_1 : True := by (k_with "setItem ref int!" => (k_dflt (refine cells_set (by k_asm) (by k_asm) (by k_updF) (by assumption) (by omega) (by first | rfl | simp only [Int.zero_add, Int.toNat_natCast]) (by omega) ?_); intro h9q o9q F9q N9q hC9q; (try dsimp only at N9q); (try k_sweep); (try dsimp only))); trivial
theorem reg_06_2 : True := by (k_with "my_nin" => (simp only [List.map_cons, List.map_nil, List.mem_singleton]; exact (show @Ne Nat _ _ by walk_at "my_neq"))); trivial
theorem con_array (w : World) (x mem cpu rg wd mo mg l : Addr) (wo : Obj) (W : Int → Int) (hW : Words w wo W) (vs : List Value) (ns : List Int) (nl : Nat) (p : Int) (tp : Tok) (hpp : 0 ≤ p ∧ p < 200) :
    Con w 15 836 [.ref x, .int p tp, .ref l] [(wd, wo)] (fun h => BoxAt h x mem cpu rg wd mo mg ∧ h.get? l = some { cls := .type "list", data := .seq vs.toArray nl } ∧ IntsAre vs ns ∧ LetOk ns)
      (fun h r h' => (∃ wo' W', h'.get? wd = some wo' ∧ Words w wo' W' ∧ BytesPut W W' p ns ns.length) ∧
        ∃ a da ca co k1 k2 k3 t1 t2 t3 t4, r = .ref a ∧ h.get? a = none ∧ h.get? da = none ∧ h.get? ca = none ∧ h'.get? a = some (instObj 89 da) ∧
          h'.get? da = some (dictOf [⟨k1, .str (Str.ofString "length") t1, .int ns.length t2⟩, ⟨k2, .str (Str.ofString "element") t3, .none⟩, ⟨k3, .str (Str.ofString "cells") t4, .ref ca⟩] 3) ∧ h'.get? ca = some co ∧ CellOk w co ns ns.length ∧ ca ≠ sysModules ∧ @Ne Nat a da ∧ @Ne Nat a ca ∧ @Ne Nat da ca) := by
  unfold Con
  intro dp un gd cn cs a ccd cl outer A₀ base h₀ L m s mean mg' mb Q E B F X N T hck hdp hun ⟨hp1, hp2, hI, hL⟩ hret
  have hp := And.intro hp1 hp2
  walk_at "my_enter"
  intro g' L' h' FG' F' N' B' X' T' kG'
  (try dsimp only)
  (try k_fold)
  have hMut : Mut s.heap ([(wd, wo)].map (·.1)) := .cons (N.get (.head _)) (mut_words hW) .nil
  have hll : g'.get? l = some { cls := .type "list", data := .seq vs.toArray nl } := kG' _ _ hp.2 (off_words hW hp.2 rfl (N.get (.head _)))
  have hBx := hp.1.sub kG' hMut; have hMa := hBx.1; have hMe := hBx.2.2; clear hBx
  have hM1 := hMe
  refine MachAt.elim hMa ?_; intro dx K T V hx hdx
  refine MemAt.elim hMe ?_; intro dm m0 m1 s0 s1 s2 hm hdm lo
  have hIl := hI.length
  have hl7 := hL.2.2
  k_steps
  unfold Halt
  refine range_inv (σ := Obj) (fun a => [(wd, a)]) (fun i a => ∃ W', Words w a W' ∧ BytesPut W W' p ns i) [] wo (by assumption) (by rfl) (by walk_at "my_range") (by walk_at "my_range") (by k_asm) (by k_asm) ⟨W, hW, .zero _ _ _⟩ rfl (fun _ => rfl) ?_ ?_
  · intro i9 t9 a9 u9 h9 tk9 own9 hi9 off9 ⟨W1, hW9, hB1⟩ F9 N9
    walk_at "my_turn"
    have e2 : (0 + (i9 : Int)).toNat = i9 := by omega
    k_steps
    exact InvEndN.intro F9q N9q ⟨by walk_at "my_stored", o9q, rfl, W9q, hW9q, hB1.succ (letok_get hL i9) (by rw [e2] at hB9q; simpa only [Int.zero_add] using hB9q)⟩ rfl (by (try dsimp only); kcf_all) (by walk_at "my_own")
  · intro a9 u9 h9 tk9 ⟨W1, hW9, hB1⟩ F9 N9
    walk_at "my_turn"
    have e3 : ((ns.length : Int) - 0).toNat = ns.length := by omega
    rw [e3] at hB1
    k_steps
    unfold Halt
    refine range_inv1 (fun i a => CellOk w a ns i) [] (by k_asm) (by k_asm) ⟨[], by assumption, Nat.le_refl _, fun k h0 h1 => absurd h1 (by omega)⟩ (by k_mem) (by k_updF) (by assumption) (by rfl) (by walk_at "my_range") (by walk_at "my_range") ?_ ?_
    · intro i8 t8 a8 u8 h8 tk8 own8 hi8 off8 hC8 F8 N8
      walk_at "my_turn"
      have e2 : (0 + (i8 : Int)).toNat = i8 := by omega
      k_steps
      exact InvEndN.intro F9q N9q ⟨by walk_at "my_stored", o9q, rfl, hC9q⟩ rfl (by (try dsimp only); kcf_all) (by walk_at "my_own")
    · intro a8 u8 h8 tk8 hC8 F8 N8
      walk_at "my_turn"
      rw [e3] at hC8
      k_steps
      exact hret _ _ _ (by k_asm) (gsub_end kG' (by k_asm)) ⟨⟨_, _, News.get (by k_asm) (by k_mem), hW9, hB1⟩, _, _, _, _, _, _, _, _, _, _, _, rfl, fresh_of kG' (by k_asm) (.tail _ (.head _)) (by walk_at "my_nin"), fresh_of kG' (by k_asm) (.tail _ (.tail _ (.head _))) (by walk_at "my_nin"), fresh_of kG' (by k_asm) (.head _) (by walk_at "my_nin"),
        News.get (by k_asm) (.tail _ (.head _)), News.get (by k_asm) (.tail _ (.tail _ (.head _))), News.get (by k_asm) (.head _), hC8, by simpa using (by assumption : (_ == sysModules) = false), by walk_at "my_neq", by walk_at "my_neq", by walk_at "my_neq"⟩
section
variable {prog : Program} {w : World} {A : Around} {E : Value → Shared → Prop} {Q : Flow → Shared → Prop} {s : Shared} {env : Env} {h₀ : Heap} {L : Addr}
theorem fr_of_eq {h : Heap} {m m' : Str → Option Value} (F : Fr h₀ L h m) (e : m = m') : Fr h₀ L h m' := e ▸ F
noncomputable def WEnd {σ : Type} (h₀ : Heap) (L : Addr) (s : Shared) (Mp : σ → Str → Option Value) (Ld : σ → Led) (I : σ → Prop) (ms : σ → Nat) (Q : Flow → Shared → Prop) (c : σ) (f : Flow) (s₃ : Shared) : Prop :=
  match f with
  | .next | .cont => ∃ h' tk c', s₃ = { s with heap := h', toks := tk } ∧ Fr h₀ L h' (Mp c') ∧ News h₀ L h' (Ld c') ∧ ms c' < ms c ∧ I c'
  | .brk => Q .next s₃
  | .ret v => Q (.ret v) s₃
theorem WEnd.intro {σ : Type} {Mp : σ → Str → Option Value} {Ld : σ → Led} {I : σ → Prop} {ms : σ → Nat} {c : σ} {h' : Heap} {tk : Nat} (c' : σ) (F : Fr h₀ L h' (Mp c')) (N : News h₀ L h' (Ld c')) (hm : ms c' < ms c) (h : I c') :
    WEnd h₀ L s Mp Ld I ms Q c .next { s with heap := h', toks := tk } := ⟨h', tk, c', rfl, F, N, hm, h⟩
/-- a while by an invariant over a state of one's own -/
theorem while_inv {σ : Type} {test : Expr} {body : List Stmt} {pos : Pos} (Mp : σ → Str → Option Value) (Ld : σ → Led) (I : σ → Prop) (ms : σ → Nat) (c₀ : σ) (F : Fr h₀ L s.heap (Mp c₀)) (N : News h₀ L s.heap (Ld c₀)) (h0 : I c₀)
    (turn : ∀ (c : σ) (h : Heap) (tk : Nat), I c → Fr h₀ L h (Mp c) → News h₀ L h (Ld c) →
      wpAny (model prog w) A (isTrue test env (eval test env)) (fun b s₂ => if b = true then wpAny (model prog w) A (execs body env) (WEnd h₀ L s Mp Ld I ms Q c) E s₂ else Q .next s₂) E { s with heap := h, toks := tk })
    (hE : PassesOwn (model prog w) A env E := by passes_own) : wpAny (model prog w) A (exec (.While test body [] pos) env) Q E s := by
  refine While_inv2 (fun n m news => ∃ c, m = Mp c ∧ news = Ld c ∧ n = ms c ∧ I c) F N ⟨c₀, rfl, rfl, rfl, h0⟩ ?_ hE
  rintro n m₁ news₁ h₁ tk₁ F₁ N₁ ⟨c, rfl, rfl, rfl, hI⟩
  refine wpAny_mono (turn c h₁ tk₁ hI F₁ N₁) (fun b s₂ q => ?_) fun _ _ e => e
  split
  · rename_i hb
    rw [if_pos hb] at q
    refine wpAny_mono q (fun f s₃ r => ?_) fun _ _ e => e
    cases f with
    | next => obtain ⟨h', tk, c', e, F', N', hm, hi⟩ := r; exact ⟨h', tk, _, _, _, e, F', N', hm, c', rfl, rfl, rfl, hi⟩
    | cont => obtain ⟨h', tk, c', e, F', N', hm, hi⟩ := r; exact ⟨h', tk, _, _, _, e, F', N', hm, c', rfl, rfl, rfl, hi⟩
    | brk => exact r
    | ret v => exact r
  · rename_i hb
    rw [if_neg hb] at q
    exact q
/-- the same where one name turns -/
theorem while_1 {σ : Type} {test : Expr} {body : List Stmt} {pos : Pos} {m₀ : Str → Option Value} {news : Led} (y : Str) (V : σ → Tok → Value) (I : σ → Prop) (ms : σ → Nat) (c₀ : σ) (t₀ : Tok) (F : Fr h₀ L s.heap m₀) (N : News h₀ L s.heap news) (hy : m₀ y = some (V c₀ t₀)) (h0 : I c₀)
    (turn : ∀ (c : σ) (t : Tok) (h : Heap) (tk : Nat), I c → Fr h₀ L h (fun z => if z = y then some (V c t) else m₀ z) → News h₀ L h news →
      wpAny (model prog w) A (isTrue test env (eval test env)) (fun b s₂ => if b = true then wpAny (model prog w) A (execs body env) (WEnd h₀ L s (fun (c : σ × Tok) z => if z = y then some (V c.1 c.2) else m₀ z) (fun _ => news) (fun c => I c.1) (fun c => ms c.1) Q (c, t)) E s₂ else Q .next s₂) E { s with heap := h, toks := tk })
    (hE : PassesOwn (model prog w) A env E := by passes_own) : wpAny (model prog w) A (exec (.While test body [] pos) env) Q E s := by
  refine while_inv (fun (c : σ × Tok) z => if z = y then some (V c.1 c.2) else m₀ z) (fun _ => news) (fun c => I c.1) (fun c => ms c.1) (c₀, t₀) (fr_of_eq F ?_) N h0 (fun c h tk hi F' N' => turn c.1 c.2 h tk hi F' N') hE
  funext z
  by_cases e : z = y
  · rw [if_pos e, e, hy]
  · rw [if_neg e]
end
theorem reg_07_1 : True := by (k_with "exec While!" => (refine Halt.out ?_)); trivial
theorem reg_07_2 : True := by (k_with "my_map" => (funext z; (repeat' split) <;> first | rfl | simp_all)); trivial
theorem map_shadow {y : Str} {v v' : Value} {m : Str → Option Value} : (fun z => if z = y then some v else if z = y then some v' else m z) = fun z => if z = y then some v else m z := by
  funext z
  by_cases e : z = y
  · rw [if_pos e, if_pos e]
  · rw [if_neg e, if_neg e, if_neg e]
/-- j spaces ahead -/
noncomputable def spS (x : Str) (j : Nat) : Str := ⟨Array.replicate j 32 ++ x.cps⟩
theorem spS_zero (x : Str) : spS x 0 = x := by cases x; simp [spS]
theorem spS_length (x : Str) (j : Nat) : (spS x j).length = j + x.length := by simp [spS, Str.length]
theorem spS_succ (x : Str) (j : Nat) : Str.ofString " " ++ spS x j = spS x (j + 1) := by
  have e : Str.ofString " " = ⟨#[32]⟩ := by decide
  rw [e]
  show Str.mk (#[32] ++ (Array.replicate j 32 ++ x.cps)) = _
  unfold spS
  congr 1
  apply Array.toList_inj.mp
  simp [List.replicate_succ]
theorem num_len {x : Int} (hx : -2147483648 ≤ x ∧ x ≤ 4294967296) : (Str.ofString (toString x)).length ≤ 11 := by
  rw [PyProof.Rows.ofString_len]
  exact PySem.int_text_length_le10 (by decide) (by omega)
section
variable {prog : Program} {w : World} {A : Around} {E Q : Value → Shared → Prop} {s : Shared} {x : Str} {j : Nat} {t u : Tok}
theorem len_sp (hb : j + x.length ≤ 1000) (h : Q (.int ((j : Int) + x.length) (s.toks + 1)) { s with toks := s.toks + 1 + 1 }) : wpAny (model prog w) A (call (.builtin "len") [.str (spS x j) t]) Q E s :=
  P.len_str (by rw [spS_length]; omega) (by rw [spS_length]; exact h)
theorem add_sp (hb : j + x.length ≤ 1000) (h : ∀ t' k, Q (.str (spS x (j + 1)) t') { s with toks := k }) : wpAny (model prog w) A (binaryOp .Add (.str (Str.ofString " ") t) (.str (spS x j) u)) Q E s := by
  have e : (Str.ofString " ").length = 1 := by decide
  exact SBL.add (fun t' k _ => by rw [spS_succ]; exact h t' k) (by rw [spS_length, e, sizeLine_eq]; omega)
end
theorem reg_07_3 : True := by (k_with "call builtin:len!" => ((with_reducible show wpAny _ _ (call _ [Value.str (spS _ _) _]) _ _ _); k_dflt (refine len_sp (by omega) ?_))); trivial
theorem reg_07_4 : True := by (k_with "binaryOp Add str str!" => ((with_reducible show wpAny _ _ (binaryOp _ _ (Value.str (spS _ _) _)) _ _ _); k_dflt (refine add_sp (by omega) ?_; intro _ _; try dsimp only))); trivial
theorem ret_str {x y : Str} {t : Tok} (e : x = y) : ∃ t', Value.str x t = Value.str y t' := ⟨t, by rw [e]⟩
theorem con_padded (w : World) (x wd : Int) (tx tw : Tok) (hx : -2147483648 ≤ x ∧ x ≤ 4294967296) :
    Con w 3 206 [.int x tx, .int wd tw] [] (fun _ => True) (fun _ r _ => ∃ t, r = .str (spS (Str.ofString (toString x)) ((if 80 < wd then 80 else wd) - ((Str.ofString (toString x)).length : Int)).toNat) t) := by
  unfold Con
  intro dp un gd cn cs a ccd cl outer A₀ base h₀ L m s mean mg' mb Q E B F X N T hck hdp hun hp hret
  walk_at "my_enter"
  intro g' L' h' FG' F' N' B' X' T' kG'
  (try dsimp only)
  (try k_fold)
  have key : ∃ x0 : Str, x0 = Str.ofString (toString x) := ⟨_, rfl⟩
  obtain ⟨x0, hx0⟩ := key
  have hx1 : x0.length ≤ 11 := hx0 ▸ num_len hx
  rw [← hx0] at hret
  k_steps
  all_goals (unfold Halt)
  all_goals (refine while_1 (σ := Nat) (Str.ofString "shown") (fun j t => .str (spS x0 j) t) (fun j => j = 0 ∨ (j : Int) + x0.length ≤ (if 80 < wd then 80 else wd)) (fun j => ((if 80 < wd then 80 else wd) - ((x0.length : Int) + j)).toNat) 0 _ (by k_asm) (by k_asm) (by rw [spS_zero, hx0]; rfl) (.inl rfl) ?_)
  all_goals (intro c9 t9 h9 tk9 hI9 F9 N9; (try dsimp only); (try k_fold))
  all_goals (try rw [if_pos (by omega)] at hI9); 
  all_goals (try rw [if_neg (by omega)] at hI9)
  all_goals k_steps
  all_goals first
    | (refine WEnd.intro (c9 + 1, _) (fr_of_eq (by k_asm) map_shadow) (by k_asm) (by (try dsimp only); (first | rw [if_pos (by omega)] | rw [if_neg (by omega)]); omega) (by (try dsimp only); (first | rw [if_pos (by omega)] | rw [if_neg (by omega)]); omega))
    | (refine hret _ _ _ (by k_asm) (gsub_end kG' (by k_asm)) (ret_str ?_); (first | rw [if_pos (by omega)] | rw [if_neg (by omega)]); congr 1; omega)
theorem reg_07_5 : True := by (k_with "call ref!" => ((with_reducible show wpAny _ _ (call (Value.ref 206) _) _ _ _); k_dflt (refine use0v (by k_asm) (by k_asm) (by k_asm) (by k_asm) (by k_asm) (by first | exact rfl | assumption) (by ktr_room) (by ktr_units) (C := con_padded _ _ _ _ _ (by first | with_reducible assumption | omega)) (hp := trivial) (ret := ?_); intro t9q h9q tk9q F9q N9q; walk_at "my_z"))); trivial
theorem con_signed (w : World) (x : Int) (tx : Tok) :
    Con w 3 636 [.int x tx] [] (fun _ => True) (fun _ r _ => ∃ t, r = .int (if 2147483648 ≤ x then x - 4294967296 else x) t) := by
  unfold Con
  intro dp un gd cn cs a ccd cl outer A₀ base h₀ L m s mean mg' mb Q E B F X N T hck hdp hun hp hret
  walk_at "my_enter"
  intro g' L' h' FG' F' N' B' X' T' kG'
  (try dsimp only)
  (try k_fold)
  k_steps
  all_goals (refine hret _ _ _ (by k_asm) (gsub_end kG' (by k_asm)) (ret_int ?_); split <;> omega)
theorem reg_07_6 : True := by (k_with "call ref!" => ((with_reducible show wpAny _ _ (call (Value.ref 636) _) _ _ _); k_dflt (refine use0v (by k_asm) (by k_asm) (by k_asm) (by k_asm) (by k_asm) (by first | exact rfl | assumption) (by ktr_room) (by ktr_units) (C := con_signed _ _ _) (hp := trivial) (ret := ?_); intro t9q h9q tk9q F9q N9q; walk_at "my_z"))); trivial
theorem con_fits (w : World) (x : Int) (tx : Tok) :
    Con w 3 185 [.int x tx] [] (fun _ => True) (fun _ r _ => r = .bool (decide (-2147483648 ≤ x ∧ x ≤ 2147483647))) := by
  unfold Con
  intro dp un gd cn cs a ccd cl outer A₀ base h₀ L m s mean mg' mb Q E B F X N T hck hdp hun hp hret
  walk_at "my_enter"
  intro g' L' h' FG' F' N' B' X' T' kG'
  (try dsimp only)
  (try k_fold)
  k_steps
  all_goals (refine hret _ _ _ (by k_asm) (gsub_end kG' (by k_asm)) ?_)
  all_goals (show Value.bool _ = Value.bool _; congr 1; rw [decide_eq_decide]; omega)
theorem reg_07_7 : True := by (k_with "call ref!" => ((with_reducible show wpAny _ _ (call (Value.ref 185) _) _ _ _); k_dflt (refine use0 (by k_asm) (by k_asm) (by k_asm) (by k_asm) (by k_asm) (by first | exact rfl | assumption) (by ktr_room) (by ktr_units) (C := con_fits _ _ _) (hp := trivial) (ret := ?_); intro r9q h9q tk9q F9q N9q G9q e9q; (replace e9q : r9q = _ := e9q); subst e9q; clear G9q; walk_at "my_z"))); trivial
/-- the character at a place of an array in the memory: nought beyond its length -/
theorem con_character (w : World) (x mem cpu rg wd mo mg : Addr) (wo : Obj) (W : Int → Int) (hW : Words w wo W) (p n k : Int) (tp tn tk : Tok) (hp0 : 0 ≤ p ∧ p < 400) (hn : n ≤ 100) (hk : 0 ≤ k) :
    Con w 15 650 [.ref x, .int p tp, .int n tn, .int k tk] [] (fun h => BoxAt h x mem cpu rg wd mo mg ∧ h.get? wd = some wo) (fun _ r _ => ∃ t, r = .int (if k ≥ n then 0 else byteAt W (p + k)) t) := by
  unfold Con
  intro dp un gd cn cs a ccd cl outer A₀ base h₀ L m s mean mg' mb Q E B F X N T hck hdp hun hp hret
  walk_at "my_enter"
  intro g' L' h' FG' F' N' B' X' T' kG'
  (try dsimp only)
  (try k_fold)
  have hwd := kG' _ _ hp.2 (by simp)
  have hBx := hp.1.sub kG' Mut.nil; have hMa := hBx.1; have hMe := hBx.2.2; clear hBx
  have hM1 := hMe
  refine MachAt.elim hMa ?_; intro dx K T V hx hdx
  refine MemAt.elim hMe ?_; intro dm m0 m1 s0 s1 s2 hm hdm lo
  k_steps
  all_goals (refine hret _ _ _ (by k_asm) (gsub_end kG' (by k_asm)) (ret_int ?_); split <;> first | rfl | omega)
theorem reg_07_8 : True := by (k_with "call ref!" => ((with_reducible show wpAny _ _ (call (Value.ref 650) _) _ _ _); k_dflt (refine use0v (by k_asm) (by k_asm) (by k_asm) (by k_asm) (by k_asm) (by first | exact rfl | assumption) (by ktr_room) (by ktr_units) (C := con_character _ _ _ _ _ _ _ _ _ _ (by assumption) _ _ _ _ _ _ (by first | with_reducible assumption | omega) (by first | with_reducible assumption | omega) (by first | with_reducible assumption | omega)) (hp := ⟨by walk_at "my_box", by walk_at "my_base"⟩) (ret := ?_); intro t9q h9q tk9q F9q N9q; walk_at "my_z"))); trivial
/-- the given numbers -/
noncomputable def GivenOk (o : Obj) (xs : List Int) : Prop := ∃ (vs : List Value) (n : Nat), o = { cls := .type "list", data := .seq vs.toArray n } ∧ IntsAre vs xs
theorem mut_given {o : Obj} {xs : List Int} (h : GivenOk o xs) : MutObj o := by obtain ⟨_, _, rfl, _⟩ := h; exact mut_list
theorem mut_row {o : Obj} (h : RowOk o) : MutObj o := by obtain ⟨_, _, _, rfl, _⟩ := h; exact mut_list
theorem mut_regs {o : Obj} {r0 : Int} (h : RegOk o r0) : MutObj o := by obtain ⟨_, _, _, rfl, _⟩ := h; exact mut_list
/-- what take_number gives -/
noncomputable def takeOf (lo hi : Int) : List Int → Option Int
  | [] => none
  | x :: _ => if x < lo ∨ hi < x then none else some x
theorem take_cons (lo hi x : Int) (r : List Int) : takeOf lo hi (x :: r) = if x < lo ∨ hi < x then none else some x := rfl
noncomputable def optInt (o : Option Int) (r : Value) : Prop := (o = none ∧ r = .none) ∨ ∃ x t, o = some x ∧ r = .int x t
theorem pop_first {prog : Program} {w : World} {A : Around} {E Q : Value → Shared → Prop} {s : Shared} {h₀ : Heap} {L D : Addr} {m : Str → Option Value} {news news' : Led} {n : Nat} {y : Value} {u : Tok} {vs : List Value} (F : Fr h₀ L s.heap m) (N : News h₀ L s.heap news)
    (U : Upd D (listOf (y :: vs).toArray n) (listOf vs.toArray (n + 1)) news news') (hz : vs.length ≤ 1000) (h : ∀ h', Fr h₀ L h' m → News h₀ L h' news' → Q y { s with heap := h' }) : wpAny (model prog w) A (call (.builtin "list.pop") [.ref D, .int 0 u]) Q E s :=
  kl_popAt (p := []) (q := vs) F N (by decide) (by show seqIndex? 0 (y :: vs).toArray.size = some 0; rw [List.size_toArray]; simp [seqIndex?]) (by show kl_cut (y :: vs).toArray.toList 0 = _; simp [kl_cut]) U (by rw [sizeLine_eq]; simp; omega) h
theorem reg_08_1 : True := by (k_with "call builtin:list.pop!" => ((with_reducible show wpAny _ _ (call _ [_, Value.int _ _]) _ _ _); k_dflt (refine pop_first (by k_asm) (by k_asm) (by k_upd) (by omega) ?_; intro h9q F9q N9q; (try dsimp only at N9q); (try k_sweep); (try dsimp only)))); trivial
theorem con_take (w : World) (x mem cpu rg wd mo mg : Addr) (go : Obj) (xs : List Int) (hG : GivenOk go xs) (hz : xs.length ≤ 1000) (lo hi : Int) (tl th : Tok) :
    Con w 5 683 [.ref x, .int lo tl, .int hi th] [(mg, go)] (fun h => BoxAt h x mem cpu rg wd mo mg) (fun _ r h' => optInt (takeOf lo hi xs) r ∧ ∃ go', h'.get? mg = some go' ∧ GivenOk go' xs.tail) := by
  unfold Con
  intro dp un gd cn cs a ccd cl outer A₀ base h₀ L m s mean mg' mb Q E B F X N T hck hdp hun hp hret
  walk_at "my_enter"
  intro g' L' h' FG' F' N' B' X' T' kG'
  (try dsimp only)
  (try k_fold)
  have hMa := (hp.sub kG' (.cons (N.get (.head _)) (mut_given hG) .nil)).1
  refine MachAt.elim hMa ?_; intro dx K T V hx hdx
  obtain ⟨vs, n, rfl, hI⟩ := hG
  cases hI with
  | nil =>
    k_steps
    all_goals exact hret _ _ _ (by k_asm) (gsub_end kG' (by k_asm)) ⟨.inl ⟨rfl, rfl⟩, _, News.get (by k_asm) (.head _), _, _, rfl, .nil⟩
  | @cons y t vs' ns' hI' =>
    have hIl := hI'.length
    have hz' : ns'.length ≤ 1000 := by simp only [List.length_cons] at hz; omega
    k_steps
    all_goals first
      | (exfalso; omega)
      | (refine hret _ _ _ (by k_asm) (gsub_end kG' (by k_asm)) ⟨?_, _, News.get (by k_asm) (.head _), _, _, rfl, hI'⟩; rw [take_cons]; first | (rw [if_pos (by omega)]; exact .inl ⟨rfl, rfl⟩) | (rw [if_neg (by omega)]; exact .inr ⟨_, _, rfl, rfl⟩))
theorem reg_08_2 : True := by (k_with "call ref!" => ((with_reducible show wpAny _ _ (call (Value.ref 683) _) _ _ _); k_dflt (refine use1 (by k_asm) (by k_asm) (by k_asm) (by k_asm) (by k_asm) (by first | exact rfl | assumption) (by ktr_room) (by ktr_units) (U := by k_updF) (C := con_take _ _ _ _ _ _ _ _ _ _ (by assumption) (by first | with_reducible assumption | omega) _ _ _ _) (hp := by walk_at "my_box") (ret := ?_); rintro r9q h9q tk9q F9q N9q G9q ⟨e9q, o9q, ho9q, hg9q⟩; replace N9q := N9q _ ho9q; clear G9q ho9q; (try dsimp only at N9q); rcases e9q with ⟨hk9q, e9q⟩ | ⟨x9q, t9q, hk9q, e9q⟩ <;> (subst e9q; walk_at "my_z")))); trivial
/-- the cells of the holding frame: ints under three names -/
noncomputable def HeldOk (w : World) (o : Obj) (C : Str → Int) : Prop :=
  ∃ kvs : List (Str × Value), o.IsDictOf (strKind PySem.Challenge.rw_pb0380_01.row.prog w) kvs ∧ (∀ p ∈ kvs, p.1 = Str.ofString "Int" ∨ p.1 = Str.ofString "Char" ∨ p.1 = Str.ofString "done") ∧
    ∀ k, (valueAt kvs k = none ∧ C k = 0) ∨ ∃ t, valueAt kvs k = some (.int (C k) t)
theorem mut_held {w : World} {o : Obj} {C : Str → Int} (h : HeldOk w o C) : MutObj o := by
  obtain ⟨kvs, ⟨es, ep, hx, hd, hk, hp, -⟩, hn, -⟩ := h
  refine ⟨fun C d sl e => ?_, fun es' n e x hx' k t hkey => ?_⟩
  · rw [e] at hd; cases hd
  · rw [e] at hd
    have he : es'.toArray = es := by injection hd
    have hx2 : x ∈ es.toList := by rw [← he]; simpa using hx'
    have key : ∀ (l : List DictEntry) (r : List (Str × Value)), Pairs (strKind PySem.Challenge.rw_pb0380_01.row.prog w) l r → (∀ p ∈ r, p.1 = Str.ofString "Int" ∨ p.1 = Str.ofString "Char" ∨ p.1 = Str.ofString "done") → ∀ x ∈ l, ∀ k t, x.key = .str k t → k = Str.ofString "Int" ∨ k = Str.ofString "Char" ∨ k = Str.ofString "done" := by
      intro l r hp
      induction hp with
      | nil => intro _ x hx; cases hx
      | @cons e kv es kvs h1 h2 _ ih =>
        intro hn x hx k t hk
        rcases List.mem_cons.mp hx with rfl | hx
        · obtain ⟨t', e'⟩ := Value.isStrOf_shape h1
          rw [hk] at e'
          injection e' with e1 e2
          rw [e1]; exact hn kv (.head _)
        · exact ih (fun p hp => hn p (.tail _ hp)) x hx k t hk
    exact key _ _ hp hn x hx2 k t hkey
theorem nodup_sub {α : Type} [DecidableEq α] : ∀ (m l : List α), l.Nodup → (∀ x ∈ l, x ∈ m) → l.length ≤ m.length := by
  intro m
  induction m with
  | nil =>
    intro l _ h
    cases l with
    | nil => exact Nat.le_refl _
    | cons x r => exact nomatch h x (.head _)
  | cons a m ih =>
    intro l hn h
    by_cases ha : a ∈ l
    · have h1 := ih (l.erase a) (hn.erase _) (fun x hx => by
        have h2 := (hn.mem_erase_iff).mp hx
        rcases List.mem_cons.mp (h x h2.2) with e | e
        · exact absurd e h2.1
        · exact e)
      rw [List.length_erase_of_mem ha] at h1
      rw [List.length_cons]; omega
    · have h1 := ih l hn (fun x hx => by
        rcases List.mem_cons.mp (h x hx) with e | e
        · exact absurd (e ▸ hx) ha
        · exact e)
      rw [List.length_cons]; omega
noncomputable def updC (C : Str → Int) (k : Str) (x : Int) : Str → Int := fun j => if j = k then x else C j
theorem valueAt_storeS (kvs : List (Str × Value)) (k : Str) (v : Value) (j : Str) : valueAt (stored kvs k v) j = if j = k then some v else valueAt kvs j := by
  unfold stored
  split
  · rename_i h
    by_cases e : j = k
    · subst e
      rw [if_pos rfl]
      induction kvs with
      | nil => simp at h
      | cons p r ih =>
        unfold valueAt at ih ⊢
        by_cases q : p.1 = j
        · simp [q]
        · simp only [List.any_cons, Bool.or_eq_true, decide_eq_true_eq, q, false_or] at h
          simp only [List.map_cons, q, if_false, List.find?_cons, decide_false]
          exact ih h
    · rw [if_neg e]
      clear h
      induction kvs with
      | nil => rfl
      | cons p r ih =>
        unfold valueAt at ih ⊢
        by_cases q : p.1 = k
        · have hkj : ¬ k = j := fun x => e x.symm
          simp only [List.map_cons, q, if_true, List.find?_cons, decide_false, hkj]
          exact ih
        · simp only [List.map_cons, q, if_false, List.find?_cons]
          cases decide (p.1 = j) with
          | true => rfl
          | false => exact ih
  · rename_i h
    have hn : ∀ p ∈ kvs, p.1 ≠ k := fun p hp e => h (List.any_eq_true.mpr ⟨p, hp, by simp [e]⟩)
    unfold valueAt
    rw [List.find?_append]
    by_cases e : j = k
    · subst e
      rw [if_pos rfl, List.find?_eq_none.mpr (by simpa using hn)]
      simp
    · rw [if_neg e]
      have : (List.find? (fun kv => decide (kv.1 = j)) [(k, v)]) = none := by simp [Ne.symm e]
      rw [this]; simp
theorem held_set {w : World} {A : Around} {E : Value → Shared → Prop} {s : Shared} {h₀ : Heap} {L d : Addr} {m : Str → Option Value} {news : Led} {g : Obj → Led} {o : Obj} {C : Str → Int} {k : Str} {x : Int} {t tx : Tok} {Q : Unit → Shared → Prop} (F : Fr h₀ L s.heap m) (N : News h₀ L s.heap news) (U : UpdF d o news g) (hW : HeldOk w o C)
    (hk : k = Str.ofString "Int" ∨ k = Str.ofString "Char" ∨ k = Str.ofString "done") (h : ∀ h' o', Fr h₀ L h' m → News h₀ L h' (g o') → HeldOk w o' (updC C k x) → Q () { s with heap := h', toks := s.toks + 1 }) :
    wpAny (model PySem.Challenge.rw_pb0380_01.row.prog w) A (setItem (.ref d) (.str k t) (.int x tx)) Q E s := by
  obtain ⟨kvs, hd, hr, hv⟩ := hW
  have hnd : (kvs.map (·.1)).Nodup := by obtain ⟨_, _, _, _, _, _, hn⟩ := hd; exact hn
  have hlen : kvs.length ≤ 3 := by
    have := nodup_sub [Str.ofString "Int", Str.ofString "Char", Str.ofString "done"] _ hnd (by intro y hy; obtain ⟨p, hp, rfl⟩ := List.mem_map.mp hy; simpa using hr p hp)
    simpa using this
  refine kda_set (knd := strKind _ _) F N U hd (strKind_is _ _ _ _) (by rw [sizeLine_eq]; omega) fun h' o' F' N' hd' => h h' o' F' N' ⟨_, hd', ?_, ?_⟩
  · intro p hp
    have : p.1 ∈ (stored kvs k (.int x tx)).map (·.1) := List.mem_map_of_mem hp
    unfold stored at this
    split at this
    · rw [List.map_map] at this
      obtain ⟨q, hq, e⟩ := List.mem_map.mp this
      have := hr q hq
      have e : q.1 = p.1 := by
        rw [← e]; simp only [Function.comp]; split <;> rfl
      rw [← e]; exact this
    · rw [List.map_append] at this
      rcases List.mem_append.mp this with e | e
      · obtain ⟨q, hq, e⟩ := List.mem_map.mp e
        rw [← e]; exact hr q hq
      · simp at e; rw [e]; exact hk
  · intro j
    rw [valueAt_storeS]
    unfold updC
    by_cases e : j = k
    · rw [if_pos e, if_pos e]; exact .inr ⟨tx, rfl⟩
    · rw [if_neg e, if_neg e]; exact hv j
theorem reg_08_3 : True := by (k_with "setItem ref str!" => (k_dflt (refine held_set (by k_asm) (by k_asm) (by k_updF) (by assumption) (by assumption) ?_); intro h9q o9q F9q N9q hC9q; (try dsimp only at N9q); (try k_sweep); (try dsimp only))); trivial
theorem con_store (w : World) (x cd : Addr) (co : Obj) (C : Str → Int) (hC : HeldOk w co C) (k : Str) (v : Int) (tk tv : Tok) (hk : k = Str.ofString "Int" ∨ k = Str.ofString "Char" ∨ k = Str.ofString "done") :
    Con w 3 192 [.ref x, .str k tk, .int v tv] [(cd, co)] (fun h => HeldAt h x cd) (fun _ r h' => r = .none ∧ ∃ co', h'.get? cd = some co' ∧ HeldOk w co' (updC C k v)) := by
  unfold Con
  intro dp un gd cn cs a ccd cl outer A₀ base h₀ L m s mean mg' mb Q E B F X N T hck hdp hun hp hret
  walk_at "my_enter"
  intro g' L' h' FG' F' N' B' X' T' kG'
  (try dsimp only)
  (try k_fold)
  refine HeldAt.elim (hp.sub kG' (.cons (N.get (.head _)) (mut_held hC) .nil)) ?_; intro dx K T V hx hdx
  k_steps
  all_goals exact hret _ _ _ (by k_asm) (gsub_end kG' (by k_asm)) ⟨rfl, _, News.get (by k_asm) (.head _), by assumption⟩
theorem reg_08_4 : True := by (k_with "call ref!" => ((with_reducible show wpAny _ _ (call (Value.ref 192) _) _ _ _); k_dflt (refine use1n (by k_asm) (by k_asm) (by k_asm) (by k_asm) (by k_asm) (by first | exact rfl | assumption) (by ktr_room) (by ktr_units) (U := by k_updF) (C := con_store _ _ _ _ _ (by assumption) _ _ _ _ (by first | exact .inl rfl | exact .inr (.inl rfl) | exact .inr (.inr rfl))) (hp := HeldAt.keep (by assumption) (by k_asm)) (ret := ?_); intro h9q tk9q o9q F9q N9q hC9q; (try dsimp only at N9q); walk_at "my_z"))); trivial
noncomputable def InIntW (W W' : Int → Int) (o : Option Int) : Prop := (∀ k, k ≠ 24 → k ≠ 26 → W' k = W k) ∧ W' 24 = (match o with | none => W 24 | some n => n % 4294967296) ∧ ∀ a, a / 4 = 26 → byteAt W' a = if a = 106 then (match o with | none => 0 | some _ => 1) else byteAt W a
noncomputable def InCharW (W W' : Int → Int) (o : Option Int) : Prop := (∀ k, k ≠ 25 → k ≠ 26 → W' k = W k) ∧ ∀ a, a / 4 = 25 ∨ a / 4 = 26 → byteAt W' a = if a = 106 then (match o with | none => 0 | some _ => 1) else if a = 101 then (match o with | none => byteAt W a | some n => n % 256) else byteAt W a
theorem byte_of_word {W W' : Int → Int} {a k : Int} (h : W' k = W k) (e : a / 4 = k) : byteAt W' a = byteAt W a := by unfold byteAt; rw [e, h]
section
variable {W W1 W' : Int → Int} {o : Option Int} {n : Int}
theorem in_int_none (hk : o = none) (hB : ∀ a, byteAt W' a = if a = 106 then 0 % 256 else byteAt W a) (hE : ∀ k, k ≠ 106 / 4 → W' k = W k) : InIntW W W' o := by
  subst hk
  exact ⟨fun k _ h => hE k h, hE 24 (by decide), fun a _ => hB a⟩
theorem in_int_some (hk : o = some n) (hS : W1 (96 / 4) = n % 4294967296) (hE1 : ∀ k, k ≠ 96 / 4 → W1 k = W k) (hB : ∀ a, byteAt W' a = if a = 106 then 1 % 256 else byteAt W1 a) (hE : ∀ k, k ≠ 106 / 4 → W' k = W1 k) : InIntW W W' o := by
  subst hk
  refine ⟨fun k h1 h2 => (hE k h2).trans (hE1 k h1), (hE 24 (by decide)).trans hS, fun a ha => ?_⟩
  rw [hB a, byte_of_word (hE1 26 (by decide)) ha]
  rfl
theorem in_char_none (hk : o = none) (hB : ∀ a, byteAt W' a = if a = 106 then 0 % 256 else byteAt W a) (hE : ∀ k, k ≠ 106 / 4 → W' k = W k) : InCharW W W' o := by
  subst hk
  refine ⟨fun k _ h => hE k h, fun a _ => (hB a).trans ?_⟩
  by_cases h : a = 106
  · rw [if_pos h, if_pos h]; rfl
  · rw [if_neg h, if_neg h]; split <;> rfl
theorem in_char_some (hk : o = some n) (hB1 : ∀ a, byteAt W1 a = if a = 101 then n % 256 else byteAt W a) (hE1 : ∀ k, k ≠ 101 / 4 → W1 k = W k) (hB : ∀ a, byteAt W' a = if a = 106 then 1 % 256 else byteAt W1 a) (hE : ∀ k, k ≠ 106 / 4 → W' k = W1 k) : InCharW W W' o := by
  subst hk
  refine ⟨fun k h1 h2 => (hE k h2).trans (hE1 k h1), fun a _ => ?_⟩
  rw [hB a, hB1 a]
  rfl
end
/-- In.Int at 96, its truth at 106 -/
theorem con_in_int (w : World) (x mem cpu rg wd mo mg : Addr) (go wo ro : Obj) (W : Int → Int) (r0 : Int) (xs : List Int) (hG : GivenOk go xs) (hz : xs.length ≤ 1000) (hW : Words w wo W) (hR : RegOk ro r0) (hA0 : W 172 = 96) (hA1 : W 173 = 106) :
    Con w 20 690 [.ref x] [(mg, go), (wd, wo)] (fun h => BoxAt h x mem cpu rg wd mo mg ∧ h.get? rg = some ro ∧ @Ne Nat rg mg) (fun _ r h' => r = .none ∧ ∃ go' wo' W', h'.get? mg = some go' ∧ h'.get? wd = some wo' ∧ GivenOk go' xs.tail ∧ Words w wo' W' ∧ InIntW W W' (takeOf (-2147483648) 2147483647 xs)) := by
  unfold Con
  intro dp un gd cn cs a ccd cl outer A₀ base h₀ L m s mean mg' mb Q E B F X N T hck hdp hun hp hret
  walk_at "my_enter"
  intro g' L' h' FG' F' N' B' X' T' kG'
  (try dsimp only)
  (try k_fold)
  have hgw : mg ∉ [wd] := by
    obtain ⟨_, _, e, _⟩ := hG
    exact off_words hW (N.get (.head _)) e (N.get (.tail _ (.head _)))
  have hne : @Ne Nat mg wd := fun q => hgw (List.mem_singleton.mpr q)
  have hrg : g'.get? rg = some ro := by
    obtain ⟨_, _, _, e, _⟩ := hR
    refine kG' _ _ hp.2.1 fun q => ?_
    rcases List.mem_cons.mp q with q | q
    · exact hp.2.2 q
    · exact off_words hW hp.2.1 e (N.get (.tail _ (.head _))) q
  have hMut : Mut s.heap ([(mg, go), (wd, wo)].map (·.1)) := .cons (N.get (.head _)) (mut_given hG) (.cons (N.get (.tail _ (.head _))) (mut_words hW) .nil)
  have hBx := hp.1.sub kG' hMut
  have hMa := hBx.1; have hCp := hBx.2.1; have hMe := hBx.2.2
  have hM1 := hMe
  refine MachAt.elim hMa ?_; intro dx K T V hx hdx
  refine MemAt.elim hMe ?_; intro dm m0 m1 s0 s1 s2 hm hdm lo
  have hA2 : W (172 + 0) = 96 := hA0
  have hA3 : W (172 + 1) = 106 := hA1
  k_steps
  all_goals first
    | exact hret _ _ _ (by k_asm) (gsub_end kG' (by k_asm)) ⟨rfl, _, _, _, News.get (by k_asm) (.head _), News.get (by k_asm) (.tail _ (.head _)), by assumption, by assumption, in_int_none (by assumption) (by assumption) (by assumption)⟩
    | exact hret _ _ _ (by k_asm) (gsub_end kG' (by k_asm)) ⟨rfl, _, _, _, News.get (by k_asm) (.head _), News.get (by k_asm) (.tail _ (.head _)), by assumption, by assumption, in_int_some (by assumption) (by assumption) (by assumption) (by assumption) (by assumption)⟩
/-- In.Char at 101, its truth at 106 -/
theorem con_in_char (w : World) (x mem cpu rg wd mo mg : Addr) (go wo ro : Obj) (W : Int → Int) (r0 : Int) (xs : List Int) (hG : GivenOk go xs) (hz : xs.length ≤ 1000) (hW : Words w wo W) (hR : RegOk ro r0) (hA0 : W 172 = 101) (hA1 : W 173 = 106) :
    Con w 20 697 [.ref x] [(mg, go), (wd, wo)] (fun h => BoxAt h x mem cpu rg wd mo mg ∧ h.get? rg = some ro ∧ @Ne Nat rg mg) (fun _ r h' => r = .none ∧ ∃ go' wo' W', h'.get? mg = some go' ∧ h'.get? wd = some wo' ∧ GivenOk go' xs.tail ∧ Words w wo' W' ∧ InCharW W W' (takeOf (0) 255 xs)) := by
  unfold Con
  intro dp un gd cn cs a ccd cl outer A₀ base h₀ L m s mean mg' mb Q E B F X N T hck hdp hun hp hret
  walk_at "my_enter"
  intro g' L' h' FG' F' N' B' X' T' kG'
  (try dsimp only)
  (try k_fold)
  have hgw : mg ∉ [wd] := by
    obtain ⟨_, _, e, _⟩ := hG
    exact off_words hW (N.get (.head _)) e (N.get (.tail _ (.head _)))
  have hne : @Ne Nat mg wd := fun q => hgw (List.mem_singleton.mpr q)
  have hrg : g'.get? rg = some ro := by
    obtain ⟨_, _, _, e, _⟩ := hR
    refine kG' _ _ hp.2.1 fun q => ?_
    rcases List.mem_cons.mp q with q | q
    · exact hp.2.2 q
    · exact off_words hW hp.2.1 e (N.get (.tail _ (.head _))) q
  have hMut : Mut s.heap ([(mg, go), (wd, wo)].map (·.1)) := .cons (N.get (.head _)) (mut_given hG) (.cons (N.get (.tail _ (.head _))) (mut_words hW) .nil)
  have hBx := hp.1.sub kG' hMut
  have hMa := hBx.1; have hCp := hBx.2.1; have hMe := hBx.2.2
  have hM1 := hMe
  refine MachAt.elim hMa ?_; intro dx K T V hx hdx
  refine MemAt.elim hMe ?_; intro dm m0 m1 s0 s1 s2 hm hdm lo
  have hA2 : W (172 + 0) = 101 := hA0
  have hA3 : W (172 + 1) = 106 := hA1
  k_steps
  all_goals first
    | exact hret _ _ _ (by k_asm) (gsub_end kG' (by k_asm)) ⟨rfl, _, _, _, News.get (by k_asm) (.head _), News.get (by k_asm) (.tail _ (.head _)), by assumption, by assumption, in_char_none (by assumption) (by assumption) (by assumption)⟩
    | exact hret _ _ _ (by k_asm) (gsub_end kG' (by k_asm)) ⟨rfl, _, _, _, News.get (by k_asm) (.head _), News.get (by k_asm) (.tail _ (.head _)), by assumption, by assumption, in_char_some (by assumption) (by assumption) (by assumption) (by assumption) (by assumption)⟩
/-- the texts put out -/
noncomputable def OutOk (o : Obj) (xs : List Str) : Prop := ∃ (vs : List Value) (n : Nat), o = { cls := .type "list", data := .seq vs.toArray n } ∧ StrsAre vs xs
theorem mut_out {o : Obj} {xs : List Str} (h : OutOk o xs) : MutObj o := by obtain ⟨_, _, rfl, _⟩ := h; exact mut_list
theorem strs_snoc {vs : List Value} {xs : List Str} (h : StrsAre vs xs) (y : Str) (t : Tok) : StrsAre (vs ++ [.str y t]) (xs ++ [y]) := by
  induction h with
  | nil => exact .cons y t .nil
  | cons a b _ ih => exact .cons a b ih
theorem strs_len {vs : List Value} {xs : List Str} (h : StrsAre vs xs) : vs.length = xs.length := by
  induction h with
  | nil => rfl
  | cons a b _ ih => simp [ih]
theorem list_append {prog : Program} {w : World} {A : Around} {E Q : Value → Shared → Prop} {s : Shared} {h₀ : Heap} {L D : Addr} {m : Str → Option Value} {news news' : Led} {n : Nat} {y : Value} {vs : List Value} (F : Fr h₀ L s.heap m) (N : News h₀ L s.heap news)
    (U : Upd D (listOf vs.toArray n) (listOf (vs ++ [y]).toArray (n + 1)) news news') (hz : vs.length ≤ 1000) (h : ∀ h', Fr h₀ L h' m → News h₀ L h' news' → Q .none { s with heap := h' }) : wpAny (model prog w) A (call (.builtin "list.append") [.ref D, y]) Q E s := by
  obtain ⟨pre, post, rfl, rfl, a, b⟩ := U.split
  exact append_in F N a b h (by rw [sizeLine_eq]; omega)
theorem reg_10_1 : True := by (k_with "call builtin:list.append!" => (k_dflt (refine list_append (by k_asm) (by k_asm) (by k_upd) (by omega) ?_); intro h9q F9q N9q; (try dsimp only at N9q); (try k_sweep); (try dsimp only))); trivial
theorem strs_snoc_eq {vs : List Value} {xs : List Str} {y y' : Str} {t : Tok} (h : StrsAre vs xs) (e : y = y') : StrsAre (vs ++ [.str y t]) (xs ++ [y']) := e ▸ strs_snoc h y t
/-- the number x in the width wd -/
noncomputable def padT (x wd : Int) : Str := spS (Str.ofString (toString x)) ((if 80 < wd then 80 else wd) - ((Str.ofString (toString x)).length : Int)).toNat
noncomputable def sgn (x : Int) : Int := if 2147483648 ≤ x then x - 4294967296 else x
theorem rjust_spS (x : Str) (i : Int) : Txt.rjust x i = spS x (i.toNat - x.length) := by
  unfold Txt.rjust
  split
  · rw [show i.toNat - x.length = 0 by omega, spS_zero]
  · rfl
theorem pad_w (v : Int) (l : Nat) : (if (if 80 < v then 80 else v) > 0 then (if 80 < v then 80 else v) else 0).toNat - l = ((if 80 < v then 80 else v) - (l : Int)).toNat := by
  generalize (if 80 < v then 80 else v) = y
  split <;> omega
theorem con_out_int (w : World) (x mem cpu rg wd mo mg : Addr) (oo wo ro : Obj) (W : Int → Int) (r0 : Int) (xs : List Str) (hO : OutOk oo xs) (hz : xs.length ≤ 1000) (hW : Words w wo W) (hR : RegOk ro r0) (n u : Int) (hA0 : W 172 = n) (hA1 : W 173 = u) :
    Con w 20 662 [.ref x] [(mo, oo)] (fun h => BoxAt h x mem cpu rg wd mo mg ∧ h.get? rg = some ro ∧ h.get? wd = some wo ∧ @Ne Nat rg mo ∧ @Ne Nat wd mo) (fun _ r h' => r = .none ∧ ∃ oo', h'.get? mo = some oo' ∧ OutOk oo' (xs ++ [padT (sgn n) (sgn u)])) := by
  unfold Con
  intro dp un gd cn cs a ccd cl outer A₀ base h₀ L m s mean mg' mb Q E B F X N T hck hdp hun hp hret
  walk_at "my_enter"
  intro g' L' h' FG' F' N' B' X' T' kG'
  (try dsimp only)
  (try k_fold)
  have hrg : g'.get? rg = some ro := kG' _ _ hp.2.1 fun q => hp.2.2.2.1 (List.mem_singleton.mp q)
  have hwd : g'.get? wd = some wo := kG' _ _ hp.2.2.1 fun q => hp.2.2.2.2 (List.mem_singleton.mp q)
  have hMut : Mut s.heap ([(mo, oo)].map (·.1)) := .cons (N.get (.head _)) (mut_out hO) .nil
  have hBx := hp.1.sub kG' hMut
  have hMa := hBx.1; have hCp := hBx.2.1; have hMe := hBx.2.2
  refine MachAt.elim hMa ?_; intro dx K T V hx hdx
  have hA2 : W (172 + 0) = n := hA0
  have hA3 : W (172 + 1) = u := hA1
  have hn := hW.range 172
  have hu := hW.range 173
  rw [hA0] at hn
  rw [hA1] at hu
  have hs1 : -2147483648 ≤ sgn n ∧ sgn n ≤ 2147483647 := by unfold sgn; split <;> omega
  obtain ⟨vs, k, rfl, hS⟩ := hO
  have hl := strs_len hS
  k_steps
  all_goals (refine hret _ _ _ (by k_asm) (gsub_end kG' (by k_asm)) ⟨rfl, _, News.get (by k_asm) (.head _), _, _, rfl, strs_snoc_eq hS ?_⟩; rw [rjust_spS]; show spS _ _ = spS _ _; congr 1; exact pad_w (sgn u) _)
theorem con_out_char (w : World) (x mem cpu rg wd mo mg : Addr) (oo wo ro : Obj) (W : Int → Int) (r0 : Int) (xs : List Str) (hO : OutOk oo xs) (hz : xs.length ≤ 1000) (hW : Words w wo W) (hR : RegOk ro r0) (n : Int) (hA0 : W 172 = n) :
    Con w 20 669 [.ref x] [(mo, oo)] (fun h => BoxAt h x mem cpu rg wd mo mg ∧ h.get? rg = some ro ∧ h.get? wd = some wo ∧ @Ne Nat rg mo ∧ @Ne Nat wd mo) (fun _ r h' => r = .none ∧ ∃ oo', h'.get? mo = some oo' ∧ OutOk oo' (xs ++ [⟨#[(n % 256).toNat]⟩])) := by
  unfold Con
  intro dp un gd cn cs a ccd cl outer A₀ base h₀ L m s mean mg' mb Q E B F X N T hck hdp hun hp hret
  walk_at "my_enter"
  intro g' L' h' FG' F' N' B' X' T' kG'
  (try dsimp only)
  (try k_fold)
  have hrg : g'.get? rg = some ro := kG' _ _ hp.2.1 fun q => hp.2.2.2.1 (List.mem_singleton.mp q)
  have hwd : g'.get? wd = some wo := kG' _ _ hp.2.2.1 fun q => hp.2.2.2.2 (List.mem_singleton.mp q)
  have hMut : Mut s.heap ([(mo, oo)].map (·.1)) := .cons (N.get (.head _)) (mut_out hO) .nil
  have hBx := hp.1.sub kG' hMut
  have hMa := hBx.1; have hCp := hBx.2.1; have hMe := hBx.2.2
  refine MachAt.elim hMa ?_; intro dx K T V hx hdx
  have hA2 : W (172 + 0) = n := hA0
  obtain ⟨vs, k, rfl, hS⟩ := hO
  have hl := strs_len hS
  k_steps
  all_goals exact hret _ _ _ (by k_asm) (gsub_end kG' (by k_asm)) ⟨rfl, _, News.get (by k_asm) (.head _), _, _, rfl, strs_snoc hS _ _⟩
noncomputable def chr1 (n : Int) : Str := ⟨#[n.toNat]⟩
/-- the letters ahead of the first nought -/
noncomputable def cutL (ns : List Int) : List Int := ns.takeWhile fun x => decide (x ≠ 0)
noncomputable def joinT (ns : List Int) : Str := Txt.join (Str.ofString "") ((cutL ns).map chr1)
noncomputable def Chars (vs : List Value) (ns : List Int) : Prop := CarriedAll vs (ns.map fun a => PyData.str (chr1 a))
theorem chars_len {vs : List Value} {ns : List Int} (h : Chars vs ns) : vs.length = ns.length := by
  have := CarriedAll.length_eq h
  simpa using this
theorem take_snoc (ns : List Int) (i : Nat) (h : i < ns.length) : ns.take (i + 1) = ns.take i ++ [ns.getD i 0] := by
  rw [List.take_add_one, List.getD_eq_getElem?_getD, List.getElem?_eq_getElem h]; rfl
theorem chars_snoc {vs : List Value} {ns : List Int} {i : Nat} (h : Chars vs (ns.take i)) (hi : i < ns.length) (c : Int) (hc : c = ns.getD i 0) (t : Tok) : Chars (vs ++ [.str (chr1 c) t]) (ns.take (i + 1)) := by
  unfold Chars
  rw [take_snoc ns i hi, List.map_append, hc]
  exact CarriedAll.snoc h (.str _ _)
theorem getD_beyond (ns : List Int) (i : Nat) (h : ns.length ≤ i) : ns.getD i 0 = 0 := by
  rw [List.getD_eq_getElem?_getD, List.getElem?_eq_none h]; rfl
theorem cutL_take : ∀ (ns : List Int) (i : Nat), ns.getD i 0 = 0 → (∀ j, j < i → ns.getD j 0 ≠ 0) → cutL ns = ns.take i
  | [], i, _, _ => by simp [cutL]
  | x :: r, 0, h, _ => by
    have h : x = 0 := h
    simp [cutL, h]
  | x :: r, i + 1, h, hj => by
    have h0 : x ≠ 0 := hj 0 (Nat.succ_pos _)
    have ih := cutL_take r i h (fun j hj' => hj (j + 1) (Nat.succ_lt_succ hj'))
    unfold cutL at ih ⊢
    rw [List.takeWhile_cons, if_pos (by simpa using h0), ih, List.take_succ_cons]
section
variable {prog : Program} {w : World} {A : Around} {E : Value → Shared → Prop} {Q : Flow → Shared → Prop} {s : Shared} {env : Env} {h₀ : Heap} {L : Addr}
theorem fr2 {h' : Heap} {y1 y2 : Str} {a b a2 b2 : Value} {a' b' : Option Value} {m : Str → Option Value} (F : Fr h₀ L h' (fun z => if z = y1 then some a else if z = y2 then some b else if z = y1 then a' else if z = y2 then b' else m z)) (ha : a = a2) (hb : b = b2) :
    Fr h₀ L h' (fun z => if z = y1 then some a2 else if z = y2 then some b2 else m z) := by
  subst ha; subst hb
  refine fr_of_eq F ?_
  funext z
  by_cases e1 : z = y1
  · simp [e1]
  · by_cases e2 : z = y2
    · simp [e1, e2]
    · simp [e1, e2]
/-- a while where two names and one object turn -/
theorem while_2 {σ : Type} {test : Expr} {body : List Stmt} {pos : Pos} {m₀ : Str → Option Value} {news : Led} {d : Addr} {o : Obj} {g : Obj → Led} (y1 y2 : Str) (V1 V2 : σ → Tok → Value) (O : σ → Obj) (I : σ → Prop) (ms : σ → Nat) (c₀ : σ) (t1 t2 : Tok) (F : Fr h₀ L s.heap m₀) (N : News h₀ L s.heap news)
    (h1 : m₀ y1 = some (V1 c₀ t1)) (h2 : m₀ y2 = some (V2 c₀ t2)) (ho : o = O c₀) (_hm : (d, o) ∈ news) (U : UpdF d o news g) (h0 : I c₀)
    (turn : ∀ (c : σ) (t1 t2 : Tok) (h : Heap) (tk : Nat), I c → Fr h₀ L h (fun z => if z = y1 then some (V1 c t1) else if z = y2 then some (V2 c t2) else m₀ z) → News h₀ L h (g (O c)) →
      wpAny (model prog w) A (isTrue test env (eval test env)) (fun b s₂ => if b = true then wpAny (model prog w) A (execs body env) (WEnd h₀ L s (fun (c : σ × Tok × Tok) z => if z = y1 then some (V1 c.1 c.2.1) else if z = y2 then some (V2 c.1 c.2.2) else m₀ z) (fun c => g (O c.1)) (fun c => I c.1) (fun c => ms c.1) Q (c, t1, t2)) E s₂ else Q .next s₂) E { s with heap := h, toks := tk })
    (hE : PassesOwn (model prog w) A env E := by passes_own) : wpAny (model prog w) A (exec (.While test body [] pos) env) Q E s := by
  subst ho
  refine while_inv (fun (c : σ × Tok × Tok) z => if z = y1 then some (V1 c.1 c.2.1) else if z = y2 then some (V2 c.1 c.2.2) else m₀ z) (fun c => g (O c.1)) (fun c => I c.1) (fun c => ms c.1) (c₀, t1, t2) (fr_of_eq F ?_) (by rw [updF_same U]; exact N) h0 (fun c h tk hi F' N' => turn c.1 c.2.1 c.2.2 h tk hi F' N') hE
  funext z
  by_cases e : z = y1
  · rw [if_pos e, e, h1]
  · rw [if_neg e]
    by_cases e2 : z = y2
    · rw [if_pos e2, e2, h2]
    · rw [if_neg e2]
end
theorem char_val {W : Int → Int} {ns : List Int} {p k : Int} {i : Nat} (hB : ∀ i : Nat, i < ns.length → byteAt W (p + (i : Int)) = ns.getD i 0) (hk : k = (i : Int)) : (if k ≥ (ns.length : Int) then 0 else byteAt W (p + k)) = ns.getD i 0 := by
  subst hk
  by_cases h : ns.length ≤ i
  · rw [if_pos (by omega), getD_beyond ns i h]
  · rw [if_neg (by omega), hB i (by omega)]
theorem reg_11_1 : True := by (k_with "call builtin:str.join!" => (k_dflt (refine KT.join_1 (g := chr1) (PySem.IsL.isList (News.get (by k_asm) (by k_mem))) (by assumption) (fun _ _ => rfl) (by omega) ?_); intro _ _ _; (try dsimp only))); trivial
theorem con_out_string (w : World) (x mem cpu rg wd mo mg : Addr) (oo wo ro : Obj) (W : Int → Int) (r0 : Int) (xs : List Str) (hO : OutOk oo xs) (hz : xs.length ≤ 1000) (hW : Words w wo W) (hR : RegOk ro r0) (p : Int) (ns : List Int) (hA0 : W 172 = p) (hA1 : W 173 = (ns.length : Int)) (hpp : 0 ≤ p ∧ p < 400) (hL : LetOk ns) (hB : ∀ i : Nat, i < ns.length → byteAt W (p + (i : Int)) = ns.getD i 0) :
    Con w 25 676 [.ref x] [(mo, oo)] (fun h => BoxAt h x mem cpu rg wd mo mg ∧ h.get? rg = some ro ∧ h.get? wd = some wo ∧ @Ne Nat rg mo ∧ @Ne Nat wd mo) (fun _ r h' => r = .none ∧ ∃ oo', h'.get? mo = some oo' ∧ OutOk oo' (xs ++ [joinT ns])) := by
  unfold Con
  intro dp un gd cn cs a ccd cl outer A₀ base h₀ L m s mean mg' mb Q E B F X N T hck hdp hun hp hret
  walk_at "my_enter"
  intro g' L' h' FG' F' N' B' X' T' kG'
  (try dsimp only)
  (try k_fold)
  have hrg : g'.get? rg = some ro := kG' _ _ hp.2.1 fun q => hp.2.2.2.1 (List.mem_singleton.mp q)
  have hwd : g'.get? wd = some wo := kG' _ _ hp.2.2.1 fun q => hp.2.2.2.2 (List.mem_singleton.mp q)
  have hMut : Mut s.heap ([(mo, oo)].map (·.1)) := .cons (N.get (.head _)) (mut_out hO) .nil
  have hBx := hp.1.sub kG' hMut
  have hMa := hBx.1; have hCp := hBx.2.1; have hMe := hBx.2.2
  refine MachAt.elim hMa ?_; intro dx K T V hx hdx
  have hA2 : W (172 + 0) = p := hA0
  have hA3 : W (172 + 1) = (ns.length : Int) := hA1
  obtain ⟨vs, k, rfl, hS⟩ := hO
  have hl := strs_len hS
  have hl7 := hL.2.2
  k_steps
  unfold Halt
  refine while_2 (σ := Nat × List Value × Nat) (Str.ofString "code") (Str.ofString "place") (fun c t => .int (ns.getD c.1 0) t) (fun c t => .int (c.1 : Int) t) (fun c => listOf c.2.1.toArray c.2.2) (fun c => c.1 ≤ ns.length ∧ Chars c.2.1 (ns.take c.1) ∧ ∀ j, j < c.1 → ns.getD j 0 ≠ 0) (fun c => ns.length - c.1) (0, [], 0) _ _ (by k_asm) (by k_asm) (by show some (Value.int _ _) = some (Value.int _ _); rw [char_val (i := 0) (k := 0) hB rfl]) (by rfl) rfl (by k_mem) (by k_updF) ⟨Nat.zero_le _, .nil, fun j hj => absurd hj (Nat.not_lt_zero _)⟩ ?_
  intro ⟨i, us, ku⟩ t1' t2' h9 tk9 ⟨hi, hC, hj⟩ F9 N9
  dsimp only at hi hC hj F9 N9
  (try dsimp only)
  (try k_fold)
  have hu := chars_len hC
  have hu2 : (ns.take i).length ≤ 7 := by rw [List.length_take]; omega
  have hc := letok_get hL i
  k_steps
  · have hi2 : i < ns.length := by
      refine Nat.lt_of_le_of_ne hi fun q => ?_
      rw [getD_beyond ns i (by omega)] at *
      simp_all
    refine WEnd.intro ((i + 1, _, _), _, _) (fr2 (by k_asm) (by rw [char_val (i := i + 1) hB (by omega)]) (by rw [show ((i : Int) + 1) = ((i + 1 : Nat) : Int) by omega])) (by k_asm) (by dsimp only; omega) ⟨hi2, chars_snoc hC hi2 _ rfl _, ?_⟩
    intro j hj'
    dsimp only at hj'
    by_cases h : j < i
    · exact hj j h
    · rw [show j = i by omega]; assumption
  · refine hret _ _ _ (by k_asm) (gsub_end kG' (by k_asm)) ⟨rfl, _, News.get (by k_asm) (.tail _ (.head _)), _, _, rfl, strs_snoc_eq hS ?_⟩
    show Txt.join _ _ = joinT ns
    unfold joinT
    rw [cutL_take ns i (by assumption) hj]
noncomputable abbrev arrE (k0 k1 k2 : Int) (t0 t1 t2 tl : Tok) (v1 : Value) (ca : Addr) (n : Int) : List DictEntry := [⟨k0, .str (Str.ofString "length") t0, .int n tl⟩, ⟨k1, .str (Str.ofString "element") t1, v1⟩, ⟨k2, .str (Str.ofString "cells") t2, .ref ca⟩]
/-- an Arr of the length n, its cells at ca -/
noncomputable def ArrAt (h : Heap) (x ca : Addr) (n : Int) : Prop :=
  ∃ (dx : Addr) (k0 k1 k2 : Int) (t0 t1 t2 tl : Tok) (v1 : Value), h.get? x = some (instObj 89 dx) ∧ h.get? dx = some (dictOf (arrE k0 k1 k2 t0 t1 t2 tl v1 ca n) 3)
theorem ArrAt.elim {h : Heap} {x ca : Addr} {n : Int} {P : Prop} (H : ArrAt h x ca n) (k : ∀ dx k0 k1 k2 t0 t1 t2 tl v1, h.get? x = some (instObj 89 dx) → h.get? dx = some (dictOf (arrE k0 k1 k2 t0 t1 t2 tl v1 ca n) 3) → P) : P := by
  obtain ⟨dx, k0, k1, k2, t0, t1, t2, tl, v1, a, b⟩ := H
  exact k dx k0 k1 k2 t0 t1 t2 tl v1 a b
theorem ArrAt.keep {h₀ h : Heap} {L : Addr} {m : Str → Option Value} {x ca : Addr} {n : Int} (M : ArrAt h₀ x ca n) (F : Fr h₀ L h m) : ArrAt h x ca n := by
  obtain ⟨dx, k0, k1, k2, t0, t1, t2, tl, v1, a, b⟩ := M
  exact ⟨dx, k0, k1, k2, t0, t1, t2, tl, v1, F.keep _ _ a, F.keep _ _ b⟩
theorem ArrAt.sub {h g : Heap} {x ca : Addr} {n : Int} {adr : List Addr} (H : ArrAt h x ca n) (G : GSub h g adr) (M : Mut h adr) : ArrAt g x ca n := by
  obtain ⟨dx, k0, k1, k2, t0, t1, t2, tl, v1, a, b⟩ := H
  obtain ⟨a, b⟩ := attr_sub G M a b rfl rfl
  exact ⟨dx, k0, k1, k2, t0, t1, t2, tl, v1, a, b⟩
theorem cells_method0 {w : World} {A : Around} {E : Value → Shared → Prop} {s : Shared} {d : Addr} {o : Obj} {ns : List Int} {i : Nat} {pl : Sem Bool} {Q : Value × List Value → Shared → Prop} (hg : s.heap.get? d = some o) (hW : CellOk w o ns i) (h : Q (.builtin "dict.get", [.ref d]) s) :
    wpAny (model PySem.Challenge.rw_pb0380_01.row.prog w) A (getMethod (.ref d) "get" pl) Q E s := by
  obtain ⟨kvs, hd, _⟩ := hW
  have hD : s.heap.DictOf (intKind PySem.Challenge.rw_pb0380_01.row.prog w) d kvs := Heap.dictOf_iff.mpr ⟨o, hg, hd⟩
  exact getMethod_builtin hD.typeIs PySem.F.plainAttrs_dict PySem.F.slot_dict_get PySem.F.type_dict_get hD.mapOf.noDict h
theorem reg_11_2 : True := by (k_with "getMethod ref!" => ((with_reducible show wpAny _ _ (getMethod (Value.ref _) (Str.ofString "get") _) _ _ _); k_dflt (refine cells_method0 (Fr.keep (by k_asm) _ _ (by assumption)) (by assumption) ?_))); trivial
theorem reg_11_3 : True := by (k_with "call builtin:dict.get!" => ((with_reducible show wpAny _ _ (call _ [_, Value.int _ _, Value.int _ _]) _ _ _); k_dflt (refine cells_get0 (Fr.keep (by k_asm) _ _ (by assumption)) (by assumption) (by assumption) (by omega) (by omega) ?_); intro t9q; (try simp only [Int.zero_add, Int.toNat_natCast]); (try dsimp only))); trivial
theorem inv_end1 {h₀ : Heap} {L : Addr} {m₀ m' : Str → Option Value} {x : Str} {st : List Str} {g : Obj → Led} {I : Obj → Prop} {own : Led} {adr : List Addr} {s₁ : Shared} {h' : Heap} {tk : Nat} {o' : Obj} (F : Fr h₀ L h' m') (N : News h₀ L h' (g o' ++ own)) (hs : ∀ z, z ≠ x → st.contains z = false → m' z = m₀ z) (hI : I o') (ha : (g o').map (·.1) = adr) :
    InvEndN h₀ L (fun m' nx => (∀ z, z ≠ x → st.contains z = false → m' z = m₀ z) ∧ ∃ a', nx = g a' ∧ I a') own adr s₁ { s₁ with heap := h', toks := tk } :=
  InvEndN.intro F N ⟨hs, o', rfl, hI⟩ ha (fun p hp => List.mem_append_left _ hp) (fun p hp => List.mem_append_right _ hp)
theorem con_text_of (w : World) (x ca : Addr) (co : Obj) (ns : List Int) (hC : CellOk w co ns ns.length) (hL : LetOk ns) :
    Con w 5 199 [.ref x] [] (fun h => ArrAt h x ca ns.length ∧ h.get? ca = some co ∧ ca ≠ sysModules) (fun _ r _ => ∃ t, r = .str (joinT ns) t) := by
  unfold Con
  intro dp un gd cn cs a ccd cl outer A₀ base h₀ L m s mean mg' mb Q E B F X N T hck hdp hun hp hret
  walk_at "my_enter"
  intro g' L' h' FG' F' N' B' X' T' kG'
  (try dsimp only)
  (try k_fold)
  have hca := kG' _ _ hp.2.1 (by simp)
  have lo := hp.2.2
  have hl7 := hL.2.2
  refine ArrAt.elim (hp.1.sub kG' Mut.nil) ?_; intro dx k0 k1 k2 t0 t1 t2 tl v1 hx hdx
  k_steps
  unfold Halt
  refine range_inv1 (fun i o => ∃ us ku, o = listOf us.toArray ku ∧ Chars us (ns.take i) ∧ ∀ j, j < i → ns.getD j 0 ≠ 0) [Str.ofString "code"] (by k_asm) (by k_asm) ⟨[], _, rfl, .nil, fun j hj => absurd hj (Nat.not_lt_zero _)⟩ (by k_mem) (by k_updF) (by assumption) (by rfl) (by walk_at "my_range") (by walk_at "my_range") ?_ ?_
  · intro i t a u h9 tk own hi off ⟨us, ku, e, hCh, hj⟩ F9 N9
    subst e
    walk_at "my_turn"
    have hu := chars_len hCh
    have hu2 : (ns.take i).length ≤ 7 := by rw [List.length_take]; omega
    have hc := letok_get hL i
    have hi2 : i < ns.length := by omega
    k_steps
    · exact hret _ _ _ (by k_asm) (gsub_end kG' (by k_asm)) (ret_str (show Txt.join _ _ = joinT ns by unfold joinT; rw [cutL_take ns i (by assumption) hj]))
    · refine inv_end1 (by k_asm) (by k_asm) (by walk_at "my_stored") ⟨_, _, rfl, chars_snoc hCh hi2 _ rfl _, ?_⟩ rfl
      intro j hj'
      by_cases h : j < i
      · exact hj j h
      · rw [show j = i by omega]; assumption
  · intro a u h9 tk ⟨us, ku, e, hCh, hj⟩ F9 N9
    subst e
    walk_at "my_turn"
    have e3 : ((ns.length : Int) - 0).toNat = ns.length := by omega
    rw [e3] at hCh hj
    have hu := chars_len hCh
    have hu2 : (ns.take ns.length).length ≤ 7 := by rw [List.length_take]; omega
    k_steps
    exact hret _ _ _ (by k_asm) (gsub_end kG' (by k_asm)) (ret_str (show Txt.join _ _ = joinT ns by unfold joinT; rw [cutL_take ns ns.length (getD_beyond _ _ (Nat.le_refl _)) hj]))
theorem reg_12_1 : True := by (k_with "call ref!" => ((with_reducible show wpAny _ _ (call (Value.ref 199) _) _ _ _); k_dflt (refine use0v (by k_asm) (by k_asm) (by k_asm) (by k_asm) (by k_asm) (by first | exact rfl | assumption) (by ktr_room) (by ktr_units) (C := con_text_of _ _ _ _ _ (by assumption) (by assumption)) (hp := ⟨ArrAt.keep (by assumption) (by k_asm), by walk_at "my_base", by assumption⟩) (ret := ?_); intro t9q h9q tk9q F9q N9q; walk_at "my_z"))); trivial
section
variable {prog : Program} {w : World} {A : Around} {E Q : Value → Shared → Prop} {s : Shared} {l : Addr} {a b : Value} {r : List Value} {n : Nat} {u : Tok} {value slice : Expr}
theorem item_first (hl : s.heap.get? l = some (listOf (a :: r).toArray n)) (h : Q a s) (hs : subscripted slice false (.ref l) (.int 0 u) = operate [.ref l, .int 0 u] (getItem (.ref l) (.int 0 u)) := by with_unfolding_all rfl) : wpAny (model prog w) A (subscriptTail value slice (.ref l) (.int 0 u)) Q E s :=
  item_listR (PySem.IsL.isList hl) (by decide) (by decide) (by rfl) h hs
theorem item_second (hl : s.heap.get? l = some (listOf (a :: b :: r).toArray n)) (h : Q b s) (hs : subscripted slice false (.ref l) (.int 1 u) = operate [.ref l, .int 1 u] (getItem (.ref l) (.int 1 u)) := by with_unfolding_all rfl) : wpAny (model prog w) A (subscriptTail value slice (.ref l) (.int 1 u)) Q E s :=
  item_listR (PySem.IsL.isList hl) (by decide) (by decide) (by rfl) h hs
end
theorem reg_12_2 : True := by (k_with "subscriptTail!" => ((first | ((with_reducible show wpAny _ _ (subscriptTail _ _ (Value.ref _) (Value.int 0 _)) _ _ _); k_dflt (refine item_first (by walk_at "my_base") ?_ (by with_unfolding_all rfl))) | ((with_reducible show wpAny _ _ (subscriptTail _ _ (Value.ref _) (Value.int 1 _)) _ _ _); k_dflt (refine item_second (by walk_at "my_base") ?_ (by with_unfolding_all rfl)))); (try dsimp only))); trivial
/-- Out.Int -/
theorem con_host_int (w : World) (x ho hg l : Addr) (oo : Obj) (xs : List Str) (hO : OutOk oo xs) (hz : xs.length ≤ 1000) (a b : Int) (ta tb : Tok) (ha : -2147483648 ≤ a ∧ a ≤ 4294967296) (tl : Tok) (nl : Nat) :
    Con w 12 213 [.ref x, .str (Str.ofString "Int") tl, .ref l] [(ho, oo)] (fun h => HostAt h x ho hg ∧ h.get? l = some (listOf #[.int a ta, .int b tb] nl) ∧ @Ne Nat l ho) (fun _ r h' => r = .none ∧ ∃ oo', h'.get? ho = some oo' ∧ OutOk oo' (xs ++ [padT a b])) := by
  unfold Con
  intro dp un gd cn cs a' ccd cl outer A₀ base h₀ L m s mean mg' mb Q E B F X N T hck hdp hun hp hret
  walk_at "my_enter"
  intro g' L' h' FG' F' N' B' X' T' kG'
  (try dsimp only)
  (try k_fold)
  have hll := kG' _ _ hp.2.1 fun q => hp.2.2 (List.mem_singleton.mp q)
  have hMut : Mut s.heap ([(ho, oo)].map (·.1)) := .cons (N.get (.head _)) (mut_out hO) .nil
  have hH := hp.1.sub kG' hMut
  refine HostAt.elim hH ?_; intro dx K T V hx hdx
  obtain ⟨vs, k, rfl, hS⟩ := hO
  have hl := strs_len hS
  k_steps
  all_goals exact hret _ _ _ (by k_asm) (gsub_end kG' (by k_asm)) ⟨rfl, _, News.get (by k_asm) (.head _), _, _, rfl, strs_snoc_eq hS rfl⟩
/-- Out.Char -/
theorem con_host_char (w : World) (x ho hg l : Addr) (oo : Obj) (xs : List Str) (hO : OutOk oo xs) (hz : xs.length ≤ 1000) (a : Int) (ta : Tok) (ha : 0 ≤ a ∧ a < 256) (tl : Tok) (nl : Nat) :
    Con w 12 213 [.ref x, .str (Str.ofString "Char") tl, .ref l] [(ho, oo)] (fun h => HostAt h x ho hg ∧ h.get? l = some (listOf #[.int a ta] nl) ∧ @Ne Nat l ho) (fun _ r h' => r = .none ∧ ∃ oo', h'.get? ho = some oo' ∧ OutOk oo' (xs ++ [chr1 a])) := by
  unfold Con
  intro dp un gd cn cs a' ccd cl outer A₀ base h₀ L m s mean mg' mb Q E B F X N T hck hdp hun hp hret
  walk_at "my_enter"
  intro g' L' h' FG' F' N' B' X' T' kG'
  (try dsimp only)
  (try k_fold)
  have hll := kG' _ _ hp.2.1 fun q => hp.2.2 (List.mem_singleton.mp q)
  have hMut : Mut s.heap ([(ho, oo)].map (·.1)) := .cons (N.get (.head _)) (mut_out hO) .nil
  have hH := hp.1.sub kG' hMut
  refine HostAt.elim hH ?_; intro dx K T V hx hdx
  obtain ⟨vs, k, rfl, hS⟩ := hO
  have hl := strs_len hS
  k_steps
  all_goals exact hret _ _ _ (by k_asm) (gsub_end kG' (by k_asm)) ⟨rfl, _, News.get (by k_asm) (.head _), _, _, rfl, strs_snoc_eq hS rfl⟩
/-- Out.String -/
theorem con_host_string (w : World) (x ho hg l : Addr) (oo : Obj) (xs : List Str) (hO : OutOk oo xs) (hz : xs.length ≤ 1000) (ar ca : Addr) (co : Obj) (ns : List Int) (hC : CellOk w co ns ns.length) (hL : LetOk ns) (tl : Tok) (nl : Nat) :
    Con w 12 213 [.ref x, .str (Str.ofString "String") tl, .ref l] [(ho, oo)] (fun h => HostAt h x ho hg ∧ h.get? l = some (listOf #[.ref ar] nl) ∧ @Ne Nat l ho ∧ ArrAt h ar ca ns.length ∧ h.get? ca = some co ∧ ca ≠ sysModules ∧ @Ne Nat ca ho) (fun _ r h' => r = .none ∧ ∃ oo', h'.get? ho = some oo' ∧ OutOk oo' (xs ++ [joinT ns])) := by
  unfold Con
  intro dp un gd cn cs a ccd cl outer A₀ base h₀ L m s mean mg' mb Q E B F X N T hck hdp hun hp hret
  walk_at "my_enter"
  intro g' L' h' FG' F' N' B' X' T' kG'
  (try dsimp only)
  (try k_fold)
  have hll := kG' _ _ hp.2.1 fun q => hp.2.2.1 (List.mem_singleton.mp q)
  have hMut : Mut s.heap ([(ho, oo)].map (·.1)) := .cons (N.get (.head _)) (mut_out hO) .nil
  have hH := hp.1.sub kG' hMut
  refine HostAt.elim hH ?_; intro dx K T V hx hdx
  have hAr := hp.2.2.2.1.sub kG' hMut
  have hca := kG' _ _ hp.2.2.2.2.1 fun q => hp.2.2.2.2.2.2 (List.mem_singleton.mp q)
  have lo := hp.2.2.2.2.2.1
  obtain ⟨vs, k, rfl, hS⟩ := hO
  have hl := strs_len hS
  k_steps
  all_goals exact hret _ _ _ (by k_asm) (gsub_end kG' (by k_asm)) ⟨rfl, _, News.get (by k_asm) (.head _), _, _, rfl, strs_snoc_eq hS rfl⟩
/-- Out.Ln -/
theorem con_host_ln (w : World) (x ho hg l : Addr) (oo : Obj) (xs : List Str) (hO : OutOk oo xs) (hz : xs.length ≤ 1000)  (tl : Tok) (nl : Nat) :
    Con w 12 213 [.ref x, .str (Str.ofString "Ln") tl, .ref l] [(ho, oo)] (fun h => HostAt h x ho hg ∧ h.get? l = some (listOf #[] nl) ∧ @Ne Nat l ho) (fun _ r h' => r = .none ∧ ∃ oo', h'.get? ho = some oo' ∧ OutOk oo' (xs ++ [Str.ofString "\n"])) := by
  unfold Con
  intro dp un gd cn cs a ccd cl outer A₀ base h₀ L m s mean mg' mb Q E B F X N T hck hdp hun hp hret
  walk_at "my_enter"
  intro g' L' h' FG' F' N' B' X' T' kG'
  (try dsimp only)
  (try k_fold)
  have hll := kG' _ _ hp.2.1 fun q => hp.2.2 (List.mem_singleton.mp q)
  have hMut : Mut s.heap ([(ho, oo)].map (·.1)) := .cons (N.get (.head _)) (mut_out hO) .nil
  have hH := hp.1.sub kG' hMut
  refine HostAt.elim hH ?_; intro dx K T V hx hdx
  obtain ⟨vs, k, rfl, hS⟩ := hO
  have hl := strs_len hS
  k_steps
  all_goals exact hret _ _ _ (by k_asm) (gsub_end kG' (by k_asm)) ⟨rfl, _, News.get (by k_asm) (.head _), _, _, rfl, strs_snoc_eq hS rfl⟩
noncomputable abbrev placeE (k0 k1 k2 : Int) (t0 t1 t2 tk : Tok) (v2 : Value) (ld : Addr) (k : Str) : List DictEntry := [⟨k0, .str (Str.ofString "holder") t0, .ref ld⟩, ⟨k1, .str (Str.ofString "key") t1, .str k tk⟩, ⟨k2, .str (Str.ofString "t") t2, v2⟩]
/-- a Place: its holder and key -/
noncomputable def PlaceAt (h : Heap) (x ld : Addr) (k : Str) : Prop :=
  ∃ (dx : Addr) (k0 k1 k2 : Int) (t0 t1 t2 tk : Tok) (v2 : Value), h.get? x = some (instObj 132 dx) ∧ h.get? dx = some (dictOf (placeE k0 k1 k2 t0 t1 t2 tk v2 ld k) 3)
theorem PlaceAt.elim {h : Heap} {x ld : Addr} {k : Str} {P : Prop} (H : PlaceAt h x ld k) (c : ∀ dx k0 k1 k2 t0 t1 t2 tk v2, h.get? x = some (instObj 132 dx) → h.get? dx = some (dictOf (placeE k0 k1 k2 t0 t1 t2 tk v2 ld k) 3) → P) : P := by
  obtain ⟨dx, k0, k1, k2, t0, t1, t2, tk, v2, a, b⟩ := H
  exact c dx k0 k1 k2 t0 t1 t2 tk v2 a b
theorem PlaceAt.sub {h g : Heap} {x ld : Addr} {k : Str} {adr : List Addr} (H : PlaceAt h x ld k) (G : GSub h g adr) (M : Mut h adr) : PlaceAt g x ld k := by
  obtain ⟨dx, k0, k1, k2, t0, t1, t2, tk, v2, a, b⟩ := H
  obtain ⟨a, b⟩ := attr_sub G M a b rfl rfl
  exact ⟨dx, k0, k1, k2, t0, t1, t2, tk, v2, a, b⟩
theorem PlaceAt.keep {h₀ h : Heap} {L : Addr} {m : Str → Option Value} {x ld : Addr} {k : Str} (M : PlaceAt h₀ x ld k) (F : Fr h₀ L h m) : PlaceAt h x ld k := by
  obtain ⟨dx, k0, k1, k2, t0, t1, t2, tk, v2, a, b⟩ := M
  exact ⟨dx, k0, k1, k2, t0, t1, t2, tk, v2, F.keep _ _ a, F.keep _ _ b⟩
/-- the cells after In -/
noncomputable def inC (k : Str) (C : Str → Int) : Option Int → Str → Int
  | none => updC C (Str.ofString "done") 0
  | some n => updC (updC C k n) (Str.ofString "done") 1
theorem list_off_dict {K : Type} [DecidableEq K] {prog : Program} {w : World} {knd : KeyKind prog w K} {h : Heap} {a d : Addr} {o od : Obj} {kvs : List (K × Value)} {vs : Array Value} {n : Nat} (e : h.get? a = some o) (ho : o = { cls := .type "list", data := .seq vs n }) (e2 : h.get? d = some od) (hd : od.IsDictOf knd kvs) : @Ne Nat a d := by
  intro q
  have q : a = d := q
  rw [q, e2] at e
  obtain ⟨es, ep, hx, hd, -⟩ := hd
  rw [Option.some.inj e, ho] at hd
  cases hd
/-- In.Int -/
theorem con_host_in_int (w : World) (x ho hg l p1 p2 ld cd : Addr) (go co : Obj) (xs : List Int) (C : Str → Int) (hG : GivenOk go xs) (hz : xs.length ≤ 1000) (hC : HeldOk w co C) (tl : Tok) (nl : Nat) :
    Con w 12 220 [.ref x, .str (Str.ofString "Int") tl, .ref l] [(hg, go), (cd, co)] (fun h => HostAt h x ho hg ∧ h.get? l = some (listOf #[.ref p1, .ref p2] nl) ∧ @Ne Nat l hg ∧ PlaceAt h p1 ld (Str.ofString "Int") ∧ PlaceAt h p2 ld (Str.ofString "done") ∧ HeldAt h ld cd)
      (fun _ r h' => r = .none ∧ ∃ go' co', h'.get? hg = some go' ∧ h'.get? cd = some co' ∧ GivenOk go' xs.tail ∧ HeldOk w co' (inC (Str.ofString "Int") C (takeOf (-2147483648) 2147483647 xs))) := by
  unfold Con
  intro dp un gd cn cs a ccd cl outer A₀ base h₀ L m s mean mg' mb Q E B F X N T hck hdp hun hp hret
  walk_at "my_enter"
  intro g' L' h' FG' F' N' B' X' T' kG'
  (try dsimp only)
  (try k_fold)
  obtain ⟨hp1, hp2, hp3, hp4, hp5, hp6⟩ := hp
  have hMut : Mut s.heap ([(hg, go), (cd, co)].map (·.1)) := .cons (N.get (.head _)) (mut_given hG) (.cons (N.get (.tail _ (.head _))) (mut_held hC) .nil)
  have hlc : @Ne Nat l cd := by
    obtain ⟨kvs, hd, -⟩ := hC
    exact list_off_dict hp2 rfl (N.get (.tail _ (.head _))) hd
  have hgc : @Ne Nat hg cd := by
    obtain ⟨kvs, hd, -⟩ := hC
    obtain ⟨_, _, e, -⟩ := hG
    exact list_off_dict (N.get (.head _)) e (N.get (.tail _ (.head _))) hd
  have hll := kG' _ _ hp2 (by
    intro q
    rcases List.mem_cons.mp q with q | q
    · exact hp3 q
    · exact hlc (List.mem_singleton.mp q))
  have hH := hp1.sub kG' hMut
  have hL := hp6.sub kG' hMut
  refine HostAt.elim hH ?_; intro dx K T V hx hdx
  refine PlaceAt.elim (hp4.sub kG' hMut) ?_; intro dp1 p10 p11 p12 q10 q11 q12 q13 w1 hx1 hdx1
  refine PlaceAt.elim (hp5.sub kG' hMut) ?_; intro dp2 p20 p21 p22 q20 q21 q22 q23 w2 hx2 hdx2
  obtain ⟨vs, n, rfl, hI⟩ := hG
  cases hI with
  | nil =>
    k_steps
    all_goals exact hret _ _ _ (by k_asm) (gsub_end kG' (by k_asm)) ⟨rfl, _, _, News.get (by k_asm) (.head _), News.get (by k_asm) (.tail _ (.head _)), ⟨_, _, rfl, .nil⟩, by assumption⟩
  | @cons y t vs' ns' hI' =>
    have hIl := hI'.length
    have hz' : ns'.length ≤ 1000 := by simp only [List.length_cons] at hz; omega
    k_steps
    all_goals (refine hret _ _ _ (by k_asm) (gsub_end kG' (by k_asm)) ⟨rfl, _, _, News.get (by k_asm) (.head _), News.get (by k_asm) (.tail _ (.head _)), ⟨_, _, rfl, hI'⟩, ?_⟩; rw [take_cons]; first | (rw [if_pos (by omega)]; assumption) | (rw [if_neg (by omega)]; assumption))
/-- In.Char -/
theorem con_host_in_char (w : World) (x ho hg l p1 p2 ld cd : Addr) (go co : Obj) (xs : List Int) (C : Str → Int) (hG : GivenOk go xs) (hz : xs.length ≤ 1000) (hC : HeldOk w co C) (tl : Tok) (nl : Nat) :
    Con w 12 220 [.ref x, .str (Str.ofString "Char") tl, .ref l] [(hg, go), (cd, co)] (fun h => HostAt h x ho hg ∧ h.get? l = some (listOf #[.ref p1, .ref p2] nl) ∧ @Ne Nat l hg ∧ PlaceAt h p1 ld (Str.ofString "Char") ∧ PlaceAt h p2 ld (Str.ofString "done") ∧ HeldAt h ld cd)
      (fun _ r h' => r = .none ∧ ∃ go' co', h'.get? hg = some go' ∧ h'.get? cd = some co' ∧ GivenOk go' xs.tail ∧ HeldOk w co' (inC (Str.ofString "Char") C (takeOf (0) 255 xs))) := by
  unfold Con
  intro dp un gd cn cs a ccd cl outer A₀ base h₀ L m s mean mg' mb Q E B F X N T hck hdp hun hp hret
  walk_at "my_enter"
  intro g' L' h' FG' F' N' B' X' T' kG'
  (try dsimp only)
  (try k_fold)
  obtain ⟨hp1, hp2, hp3, hp4, hp5, hp6⟩ := hp
  have hMut : Mut s.heap ([(hg, go), (cd, co)].map (·.1)) := .cons (N.get (.head _)) (mut_given hG) (.cons (N.get (.tail _ (.head _))) (mut_held hC) .nil)
  have hlc : @Ne Nat l cd := by
    obtain ⟨kvs, hd, -⟩ := hC
    exact list_off_dict hp2 rfl (N.get (.tail _ (.head _))) hd
  have hgc : @Ne Nat hg cd := by
    obtain ⟨kvs, hd, -⟩ := hC
    obtain ⟨_, _, e, -⟩ := hG
    exact list_off_dict (N.get (.head _)) e (N.get (.tail _ (.head _))) hd
  have hll := kG' _ _ hp2 (by
    intro q
    rcases List.mem_cons.mp q with q | q
    · exact hp3 q
    · exact hlc (List.mem_singleton.mp q))
  have hH := hp1.sub kG' hMut
  have hL := hp6.sub kG' hMut
  refine HostAt.elim hH ?_; intro dx K T V hx hdx
  refine PlaceAt.elim (hp4.sub kG' hMut) ?_; intro dp1 p10 p11 p12 q10 q11 q12 q13 w1 hx1 hdx1
  refine PlaceAt.elim (hp5.sub kG' hMut) ?_; intro dp2 p20 p21 p22 q20 q21 q22 q23 w2 hx2 hdx2
  obtain ⟨vs, n, rfl, hI⟩ := hG
  cases hI with
  | nil =>
    k_steps
    all_goals exact hret _ _ _ (by k_asm) (gsub_end kG' (by k_asm)) ⟨rfl, _, _, News.get (by k_asm) (.head _), News.get (by k_asm) (.tail _ (.head _)), ⟨_, _, rfl, .nil⟩, by assumption⟩
  | @cons y t vs' ns' hI' =>
    have hIl := hI'.length
    have hz' : ns'.length ≤ 1000 := by simp only [List.length_cons] at hz; omega
    k_steps
    all_goals (refine hret _ _ _ (by k_asm) (gsub_end kG' (by k_asm)) ⟨rfl, _, _, News.get (by k_asm) (.head _), News.get (by k_asm) (.tail _ (.head _)), ⟨_, _, rfl, hI'⟩, ?_⟩; rw [take_cons]; first | (rw [if_pos (by omega)]; assumption) | (rw [if_neg (by omega)]; assumption))
theorem reg_14_1 : True := by (k_with "call ref!" => ((with_reducible show wpAny _ _ (call (Value.ref 213) _) _ _ _); refine Halt.out ?_)); trivial
theorem reg_14_2 : True := by (k_with "call ref!" => ((with_reducible show wpAny _ _ (call (Value.ref 220) _) _ _ _); refine Halt.out ?_)); trivial
/-- host_call of the plain run: by the contract of host_out -/
theorem con_hc_out {w : World} {x l : Addr} {lab : Str} {tm tl : Tok} {CH : Led} {Pre R : Heap → Prop} (hS : Stays CH Pre) (C : Con w 12 213 [.ref x, .str lab tl, .ref l] CH Pre (fun _ r h' => r = .none ∧ R h')) :
    Con w 16 227 [.ref x, .none, .none, .str (Str.ofString "Out") tm, .str lab tl, .ref l] CH Pre (fun _ r h' => R h') := by
  unfold Con
  intro dp un gd cn cs a' ccd cl outer A₀ base h₀ L m s mean mg' mb Q E B F X N T hck hdp hun hp hret
  walk_at "my_enter"
  intro g' L' h' FG' F' N' B' X' T' kG'
  (try dsimp only)
  (try k_fold)
  k_steps
  unfold Halt
  refine' useA (by k_asm) (by k_asm) (by k_asm) (by k_asm) (by k_asm) (by first | exact rfl | assumption) (by ktr_room) (by ktr_units) (C := C) (hp := ?hp) (ret := ?_)
  (case hp => exact hS _ _ _ _ N (gsub_end kG' (by k_asm)) hp)
  rintro r9 h9 tk9 F9 N9 ⟨e9, hR9⟩
  subst e9
  walk_at "my_z"
  k_steps
  exact hret _ _ _ (by k_asm) (gsub_end kG' (by k_asm)) hR9
/-- host_call of the plain run: by the contract of host_in -/
theorem con_hc_in {w : World} {x l : Addr} {lab : Str} {tm tl : Tok} {CH : Led} {Pre R : Heap → Prop} (hS : Stays CH Pre) (C : Con w 12 220 [.ref x, .str lab tl, .ref l] CH Pre (fun _ r h' => r = .none ∧ R h')) :
    Con w 16 227 [.ref x, .none, .none, .str (Str.ofString "In") tm, .str lab tl, .ref l] CH Pre (fun _ r h' => R h') := by
  unfold Con
  intro dp un gd cn cs a' ccd cl outer A₀ base h₀ L m s mean mg' mb Q E B F X N T hck hdp hun hp hret
  walk_at "my_enter"
  intro g' L' h' FG' F' N' B' X' T' kG'
  (try dsimp only)
  (try k_fold)
  k_steps
  unfold Halt
  refine' useA (by k_asm) (by k_asm) (by k_asm) (by k_asm) (by k_asm) (by first | exact rfl | assumption) (by ktr_room) (by ktr_units) (C := C) (hp := ?hp) (ret := ?_)
  (case hp => exact hS _ _ _ _ N (gsub_end kG' (by k_asm)) hp)
  rintro r9 h9 tk9 F9 N9 ⟨e9, hR9⟩
  subst e9
  walk_at "my_z"
  k_steps
  exact hret _ _ _ (by k_asm) (gsub_end kG' (by k_asm)) hR9
theorem stays_out {x ho hg l : Addr} {oo : Obj} {xs : List Str} (hO : OutOk oo xs) {o : Obj} : Stays [(ho, oo)] (fun h => HostAt h x ho hg ∧ h.get? l = some o ∧ @Ne Nat l ho) := fun _ _ _ _ N G hp =>
  ⟨hp.1.sub G (.cons (N.get (.head _)) (mut_out hO) .nil), G _ _ hp.2.1 fun q => hp.2.2 (List.mem_singleton.mp q), hp.2.2⟩
/-- host_call: Out.Int -/
theorem con_hc_int (w : World) (x ho hg l : Addr) (oo : Obj) (xs : List Str) (hO : OutOk oo xs) (hz : xs.length ≤ 1000) (a b : Int) (ta tb : Tok) (ha : -2147483648 ≤ a ∧ a ≤ 4294967296) (tl tm : Tok) (nl : Nat) :
    Con w 16 227 [.ref x, .none, .none, .str (Str.ofString "Out") tm, .str (Str.ofString "Int") tl, .ref l] [(ho, oo)] (fun h => HostAt h x ho hg ∧ h.get? l = some (listOf #[.int a ta, .int b tb] nl) ∧ @Ne Nat l ho) (fun _ r h' => ∃ oo', h'.get? ho = some oo' ∧ OutOk oo' (xs ++ [padT a b])) :=
  con_hc_out (stays_out hO) (con_host_int w x ho hg l oo xs hO hz a b ta tb ha tl nl)
/-- host_call: Out.Char -/
theorem con_hc_char (w : World) (x ho hg l : Addr) (oo : Obj) (xs : List Str) (hO : OutOk oo xs) (hz : xs.length ≤ 1000) (a : Int) (ta : Tok) (ha : 0 ≤ a ∧ a < 256) (tl tm : Tok) (nl : Nat) :
    Con w 16 227 [.ref x, .none, .none, .str (Str.ofString "Out") tm, .str (Str.ofString "Char") tl, .ref l] [(ho, oo)] (fun h => HostAt h x ho hg ∧ h.get? l = some (listOf #[.int a ta] nl) ∧ @Ne Nat l ho) (fun _ r h' => ∃ oo', h'.get? ho = some oo' ∧ OutOk oo' (xs ++ [chr1 a])) :=
  con_hc_out (stays_out hO) (con_host_char w x ho hg l oo xs hO hz a ta ha tl nl)
/-- host_call: Out.String -/
theorem con_hc_string (w : World) (x ho hg l : Addr) (oo : Obj) (xs : List Str) (hO : OutOk oo xs) (hz : xs.length ≤ 1000) (ar ca : Addr) (co : Obj) (ns : List Int) (hC : CellOk w co ns ns.length) (hL : LetOk ns) (tl tm : Tok) (nl : Nat) :
    Con w 16 227 [.ref x, .none, .none, .str (Str.ofString "Out") tm, .str (Str.ofString "String") tl, .ref l] [(ho, oo)] (fun h => HostAt h x ho hg ∧ h.get? l = some (listOf #[.ref ar] nl) ∧ @Ne Nat l ho ∧ ArrAt h ar ca ns.length ∧ h.get? ca = some co ∧ ca ≠ sysModules ∧ @Ne Nat ca ho) (fun _ r h' => ∃ oo', h'.get? ho = some oo' ∧ OutOk oo' (xs ++ [joinT ns])) :=
  con_hc_out (fun _ _ _ _ N G hp => by
    have hMut := Mut.cons (N.get (.head _)) (mut_out hO) .nil
    exact ⟨hp.1.sub G hMut, G _ _ hp.2.1 fun q => hp.2.2.1 (List.mem_singleton.mp q), hp.2.2.1, hp.2.2.2.1.sub G hMut, G _ _ hp.2.2.2.2.1 fun q => hp.2.2.2.2.2.2 (List.mem_singleton.mp q), hp.2.2.2.2.2⟩) (con_host_string w x ho hg l oo xs hO hz ar ca co ns hC hL tl nl)
/-- host_call: Out.Ln -/
theorem con_hc_ln (w : World) (x ho hg l : Addr) (oo : Obj) (xs : List Str) (hO : OutOk oo xs) (hz : xs.length ≤ 1000)  (tl tm : Tok) (nl : Nat) :
    Con w 16 227 [.ref x, .none, .none, .str (Str.ofString "Out") tm, .str (Str.ofString "Ln") tl, .ref l] [(ho, oo)] (fun h => HostAt h x ho hg ∧ h.get? l = some (listOf #[] nl) ∧ @Ne Nat l ho) (fun _ r h' => ∃ oo', h'.get? ho = some oo' ∧ OutOk oo' (xs ++ [Str.ofString "\n"])) :=
  con_hc_out (stays_out hO) (con_host_ln w x ho hg l oo xs hO hz tl nl)
theorem stays_in {w : World} {x ho hg l p1 p2 ld cd : Addr} {go co : Obj} {xs : List Int} {C : Str → Int} {k1 k2 : Str} {nl : Nat} (hG : GivenOk go xs) (hC : HeldOk w co C) :
    Stays [(hg, go), (cd, co)] (fun h => HostAt h x ho hg ∧ h.get? l = some (listOf #[.ref p1, .ref p2] nl) ∧ @Ne Nat l hg ∧ PlaceAt h p1 ld k1 ∧ PlaceAt h p2 ld k2 ∧ HeldAt h ld cd) := fun _ _ _ _ N G hp => by
  have hMut := Mut.cons (N.get (.head _)) (mut_given hG) (Mut.cons (N.get (.tail _ (.head _))) (mut_held hC) .nil)
  have hlc : @Ne Nat l cd := by
    obtain ⟨kvs, hd, -⟩ := hC
    exact list_off_dict hp.2.1 rfl (N.get (.tail _ (.head _))) hd
  refine ⟨hp.1.sub G hMut, G _ _ hp.2.1 ?_, hp.2.2.1, hp.2.2.2.1.sub G hMut, hp.2.2.2.2.1.sub G hMut, hp.2.2.2.2.2.sub G hMut⟩
  intro q
  rcases List.mem_cons.mp q with q | q
  · exact hp.2.2.1 q
  · exact hlc (List.mem_singleton.mp q)
/-- host_call: In.Int -/
theorem con_hc_in_int (w : World) (x ho hg l p1 p2 ld cd : Addr) (go co : Obj) (xs : List Int) (C : Str → Int) (hG : GivenOk go xs) (hz : xs.length ≤ 1000) (hC : HeldOk w co C) (tl tm : Tok) (nl : Nat) :
    Con w 16 227 [.ref x, .none, .none, .str (Str.ofString "In") tm, .str (Str.ofString "Int") tl, .ref l] [(hg, go), (cd, co)] (fun h => HostAt h x ho hg ∧ h.get? l = some (listOf #[.ref p1, .ref p2] nl) ∧ @Ne Nat l hg ∧ PlaceAt h p1 ld (Str.ofString "Int") ∧ PlaceAt h p2 ld (Str.ofString "done") ∧ HeldAt h ld cd)
      (fun _ r h' => ∃ go' co', h'.get? hg = some go' ∧ h'.get? cd = some co' ∧ GivenOk go' xs.tail ∧ HeldOk w co' (inC (Str.ofString "Int") C (takeOf (-2147483648) 2147483647 xs))) :=
  con_hc_in (stays_in hG hC) (con_host_in_int w x ho hg l p1 p2 ld cd go co xs C hG hz hC tl nl)
/-- host_call: In.Char -/
theorem con_hc_in_char (w : World) (x ho hg l p1 p2 ld cd : Addr) (go co : Obj) (xs : List Int) (C : Str → Int) (hG : GivenOk go xs) (hz : xs.length ≤ 1000) (hC : HeldOk w co C) (tl tm : Tok) (nl : Nat) :
    Con w 16 227 [.ref x, .none, .none, .str (Str.ofString "In") tm, .str (Str.ofString "Char") tl, .ref l] [(hg, go), (cd, co)] (fun h => HostAt h x ho hg ∧ h.get? l = some (listOf #[.ref p1, .ref p2] nl) ∧ @Ne Nat l hg ∧ PlaceAt h p1 ld (Str.ofString "Char") ∧ PlaceAt h p2 ld (Str.ofString "done") ∧ HeldAt h ld cd)
      (fun _ r h' => ∃ go' co', h'.get? hg = some go' ∧ h'.get? cd = some co' ∧ GivenOk go' xs.tail ∧ HeldOk w co' (inC (Str.ofString "Char") C (takeOf (0) 255 xs))) :=
  con_hc_in (stays_in hG hC) (con_host_in_char w x ho hg l p1 p2 ld cd go co xs C hG hz hC tl nl)
theorem mem_of_any {ns : List Int} (h : (ns.any fun x => x == 0) = true) : (0 : Int) ∈ ns := by
  obtain ⟨x, hx, e⟩ := List.any_eq_true.mp h
  have e : x = 0 := eq_of_beq e
  exact e ▸ hx
theorem kf_ints_of {vs : List Value} {ns : List Int} (h : IntsAre vs ns) : kf_ints vs = true := by
  induction h with
  | nil => rfl
  | cons n t _ ih => unfold kf_ints; exact ih
theorem kf_at_of {vs : List Value} {ns : List Int} (h : IntsAre vs ns) (hm : (0 : Int) ∈ ns) : kf_at 0 vs = some (ns.idxOf 0) := by
  induction h with
  | nil => cases hm
  | @cons n t vs ns _ ih =>
    unfold kf_at
    by_cases e : n = 0
    · subst e
      simp [isInt]
    · have hm2 : (0 : Int) ∈ ns := by
        rcases List.mem_cons.mp hm with q | q
        · exact absurd q.symm e
        · exact q
      have hx : isInt 0 (.int n t) = false := by simp [isInt, e]
      have hn : (n == 0) = false := by simpa using e
      rw [hx, ih hm2, List.idxOf_cons, hn]
      rfl
theorem reg_15_1 : True := by (k_with "call builtin:list.index!" => (k_dflt (refine kf_index (by k_asm) (by k_mem) (kf_ints_of (by assumption)) (kf_at_of (by assumption) (mem_of_any (by assumption))) rfl (by rw [sizeLine_eq]; simp; omega) ?_); (try dsimp only))); trivial
theorem cut_idx : ∀ {ns : List Int}, (0 : Int) ∈ ns → ns.take (ns.idxOf 0) = cutL ns
  | [], h => nomatch h
  | x :: r, h => by
    by_cases e : x = 0
    · subst e; simp [cutL]
    · have hr : (0 : Int) ∈ r := by
        rcases List.mem_cons.mp h with q | q
        · exact absurd q.symm e
        · exact q
      have hn : (x == 0) = false := by simpa using e
      have ih := cut_idx hr
      rw [List.idxOf_cons, hn]
      unfold cutL at ih ⊢
      rw [List.takeWhile_cons, if_pos (by simpa using e), ← ih]
      rfl
theorem cut_none : ∀ {ns : List Int}, (ns.any fun x => x == 0) = false → cutL ns = ns
  | [], _ => rfl
  | x :: r, h => by
    rw [List.any_cons, Bool.or_eq_false_iff] at h
    have e : x ≠ 0 := by
      intro q
      rw [q] at h
      exact absurd h.1 (by decide)
    have ih := cut_none h.2
    unfold cutL at ih ⊢
    rw [List.takeWhile_cons, if_pos (by simpa using e), ih]
theorem con_cut (w : World) (l : Addr) (vs : List Value) (ns : List Int) (n : Nat) (hI : IntsAre vs ns) (hz : ns.length ≤ 7) :
    Con w 5 843 [.ref l] [(l, listOf vs.toArray n)] (fun _ => True) (fun h r h' => h'.get? l = some (listOf vs.toArray n) ∧ ∃ a us k, r = .ref a ∧ h'.get? a = some (listOf us.toArray k) ∧ IntsAre us (cutL ns) ∧ (a = l ∨ h.get? a = none)) := by
  unfold Con
  intro dp un gd cn cs a' ccd cl outer A₀ base h₀ L m s mean mg' mb Q E B F X N T hck hdp hun hp hret
  walk_at "my_enter"
  intro g' L' h' FG' F' N' B' X' T' kG'
  (try dsimp only)
  (try k_fold)
  have hIl := hI.length
  k_steps
  all_goals first
    | (refine hret _ _ _ (by k_asm) (gsub_end kG' (by k_asm)) ⟨News.get (by k_asm) (.tail _ (.head _)), _, _, _, rfl, News.get (by k_asm) (.head _), ?_, .inr (fresh_of kG' (by k_asm) (.head _) (by walk_at "my_nin"))⟩; rw [← cut_idx (mem_of_any (by assumption))]; assumption)
    | (refine hret _ _ _ (by k_asm) (gsub_end kG' (by k_asm)) ⟨News.get (by k_asm) (.head _), _, _, _, rfl, News.get (by k_asm) (.head _), ?_, .inl rfl⟩; rw [cut_none (by assumption)]; exact hI)
theorem reg_16_1 : True := by (k_with "call ref!" => ((with_reducible show wpAny _ _ (call (Value.ref 643) _) _ _ _); k_dflt (refine use0v (by k_asm) (by k_asm) (by k_asm) (by k_asm) (by k_asm) (by first | exact rfl | assumption) (by ktr_room) (by ktr_units) (C := con_argument _ _ _ _ _ _ _ _ _ _ _ _ (by assumption) (by assumption) _ _ _ (by first | with_reducible assumption | omega) (by first | assumption | exact arg_step (by assumption) (by first | with_reducible assumption | omega) (by assumption) | rfl)) (hp := ⟨by walk_at "my_box", by walk_at "my_base", by walk_at "my_base"⟩) (ret := ?_); intro t9q h9q tk9q F9q N9q; walk_at "my_z"))); trivial
/-- where two rows of letters part -/
noncomputable def PartAt (ns ms : List Int) (i : Nat) : Prop := (∀ j, j < i → ns.getD j 0 = ms.getD j 0 ∧ ns.getD j 0 ≠ 0) ∧ ¬ (ns.getD i 0 = ms.getD i 0 ∧ ns.getD i 0 ≠ 0)
noncomputable def cmpV (a b : Int) : Int := if a < b then 4294967295 else if b < a then 1 else 0
section
variable {prog : Program} {w : World} {A : Around} {E : Value → Shared → Prop} {Q : Flow → Shared → Prop} {s : Shared} {env : Env} {h₀ : Heap} {L : Addr}
theorem fr3 {h' : Heap} {y1 y2 y3 : Str} {a b c a2 b2 c2 : Value} {a' b' c' : Option Value} {m : Str → Option Value} (F : Fr h₀ L h' (fun z => if z = y1 then some a else if z = y2 then some b else if z = y3 then some c else if z = y1 then a' else if z = y2 then b' else if z = y3 then c' else m z)) (ha : a = a2) (hb : b = b2) (hc : c = c2) :
    Fr h₀ L h' (fun z => if z = y1 then some a2 else if z = y2 then some b2 else if z = y3 then some c2 else m z) := by
  subst ha; subst hb; subst hc
  refine fr_of_eq F ?_
  funext z
  by_cases e1 : z = y1
  · simp [e1]
  · by_cases e2 : z = y2
    · simp [e1, e2]
    · by_cases e3 : z = y3
      · simp [e1, e2, e3]
      · simp [e1, e2, e3]
/-- a while where three names turn -/
theorem while_3 {σ : Type} {test : Expr} {body : List Stmt} {pos : Pos} {m₀ : Str → Option Value} {news : Led} (y1 y2 y3 : Str) (V1 V2 V3 : σ → Tok → Value) (I : σ → Prop) (ms : σ → Nat) (c₀ : σ) (t1 t2 t3 : Tok) (F : Fr h₀ L s.heap m₀) (N : News h₀ L s.heap news)
    (h1 : m₀ y1 = some (V1 c₀ t1)) (h2 : m₀ y2 = some (V2 c₀ t2)) (h3 : m₀ y3 = some (V3 c₀ t3)) (h0 : I c₀)
    (turn : ∀ (c : σ) (t1 t2 t3 : Tok) (h : Heap) (tk : Nat), I c → Fr h₀ L h (fun z => if z = y1 then some (V1 c t1) else if z = y2 then some (V2 c t2) else if z = y3 then some (V3 c t3) else m₀ z) → News h₀ L h news →
      wpAny (model prog w) A (isTrue test env (eval test env)) (fun b s₂ => if b = true then wpAny (model prog w) A (execs body env) (WEnd h₀ L s (fun (c : σ × Tok × Tok × Tok) z => if z = y1 then some (V1 c.1 c.2.1) else if z = y2 then some (V2 c.1 c.2.2.1) else if z = y3 then some (V3 c.1 c.2.2.2) else m₀ z) (fun _ => news) (fun c => I c.1) (fun c => ms c.1) Q (c, t1, t2, t3)) E s₂ else Q .next s₂) E { s with heap := h, toks := tk })
    (hE : PassesOwn (model prog w) A env E := by passes_own) : wpAny (model prog w) A (exec (.While test body [] pos) env) Q E s := by
  refine while_inv (fun (c : σ × Tok × Tok × Tok) z => if z = y1 then some (V1 c.1 c.2.1) else if z = y2 then some (V2 c.1 c.2.2.1) else if z = y3 then some (V3 c.1 c.2.2.2) else m₀ z) (fun _ => news) (fun c => I c.1) (fun c => ms c.1) (c₀, t1, t2, t3) (fr_of_eq F ?_) N h0 (fun c h tk hi F' N' => turn c.1 c.2.1 c.2.2.1 c.2.2.2 h tk hi F' N') hE
  funext z
  by_cases e : z = y1
  · rw [if_pos e, e, h1]
  · rw [if_neg e]
    by_cases e2 : z = y2
    · rw [if_pos e2, e2, h2]
    · rw [if_neg e2]
      by_cases e3 : z = y3
      · rw [if_pos e3, e3, h3]
      · rw [if_neg e3]
end
theorem regok_eq {o : Obj} {x y : Int} (h : RegOk o x) (e : x = y) : RegOk o y := e ▸ h
theorem reg_16_2 : True := by (k_with "setItem ref int!" => ((with_reducible show wpAny _ _ (setItem (Value.ref _) (Value.int 0 _) (Value.int _ _)) _ _ _); k_dflt (refine regs_set (by k_asm) (by k_asm) (by assumption) (by k_updF) ?_); intro h9q o9q F9q N9q hR9q; (try dsimp only at N9q); (try k_sweep); (try dsimp only))); trivial
theorem ints4 {ys : List Value} {a b c d : Int} (h : IntsAre ys [a, b, c, d]) : ∃ ta tb tc td, ys = [.int a ta, .int b tb, .int c tc, .int d td] := by
  cases h with
  | cons _ ta h =>
    cases h with
    | cons _ tb h =>
      cases h with
      | cons _ tc h =>
        cases h with
        | cons _ td h => cases h; exact ⟨ta, tb, tc, td, rfl⟩
theorem con_compare (w : World) (x mem cpu rg wd mo mg : Addr) (wo ro : Obj) (W : Int → Int) (r0 : Int) (hW : Words w wo W) (hR : RegOk ro r0) (p q : Int) (ns ms : List Int) (hA0 : W 172 = p) (hA1 : W 173 = (ns.length : Int)) (hA2 : W 174 = q) (hA3 : W 175 = (ms.length : Int)) (hpp : 0 ≤ p ∧ p < 400) (hqq : 0 ≤ q ∧ q < 400) (hL : LetOk ns) (hM : LetOk ms)
    (hB : ∀ i : Nat, i < ns.length → byteAt W (p + (i : Int)) = ns.getD i 0) (hD : ∀ i : Nat, i < ms.length → byteAt W (q + (i : Int)) = ms.getD i 0) :
    Con w 25 655 [.ref x] [(rg, ro)] (fun h => BoxAt h x mem cpu rg wd mo mg ∧ h.get? wd = some wo) (fun _ r h' => r = .none ∧ ∃ i ro', PartAt ns ms i ∧ h'.get? rg = some ro' ∧ RegOk ro' (cmpV (ns.getD i 0) (ms.getD i 0))) := by
  unfold Con
  intro dp un gd cn cs a' ccd cl outer A₀ base h₀ L m s mean mg' mb Q E B F X N T hck hdp hun hp hret
  walk_at "my_enterC"
  intro g' L' h' tk' cells' FG' F' N' Y' B' X' T' l1 kG'
  (try (replace l1 := allLt_of l1; simp only [AllLt, and_true] at l1))
  k_cells Y'
  (try simp only [List.cons_append, List.nil_append] at N')
  (try dsimp only)
  (try k_fold)
  have hMut : Mut s.heap ([(rg, ro)].map (·.1)) := .cons (N.get (.head _)) (mut_regs hR) .nil
  have hBx := hp.1.sub kG' hMut
  have hwr : @Ne Nat rg wd := by
    obtain ⟨_, _, _, e, _⟩ := hR
    obtain ⟨kvs, hd, -⟩ := hW
    exact list_off_dict (N.get (.head _)) e hp.2 hd
  have hwd : g'.get? wd = some wo := kG' _ _ hp.2 fun q => hwr (List.mem_singleton.mp q).symm
  have hMa := hBx.1; have hCp := hBx.2.1; have hMe := hBx.2.2
  refine MachAt.elim hMa ?_; intro dx K T V hx hdx
  refine CpuAt.elim hCp ?_; intro dc K2 T2 V2 hc hdc
  have hB0 : W (172 + 0) = p := hA0
  have hB1 : W (172 + 1) = (ns.length : Int) := hA1
  have hB2 : W (172 + 2) = q := hA2
  have hB3 : W (172 + 3) = (ms.length : Int) := hA3
  have hl7 := hL.2.2
  have hm7 := hM.2.2
  k_steps
  rename IntsAre _ _ => hI8
  have e8 : (rangeKs 0 ((4 : Int) - 0).toNat) = [0, 1, 2, 3] := by decide
  rw [e8] at hI8
  simp only [List.map_cons, List.map_nil] at hI8
  rw [hB0, hB1, hB2, hB3] at hI8
  obtain ⟨ta, tb, tc, td, e9⟩ := ints4 hI8
  subst e9
  k_steps
  unfold Halt
  refine while_3 (σ := Nat) (Str.ofString "b") (Str.ofString "a") (Str.ofString "place") (fun i t => .int (ms.getD i 0) t) (fun i t => .int (ns.getD i 0) t) (fun i t => .int (i : Int) t) (fun i => ∀ j, j < i → ns.getD j 0 = ms.getD j 0 ∧ ns.getD j 0 ≠ 0) (fun i => ns.length - i) 0 _ _ _ (by k_asm) (by k_asm) (by show some (Value.int _ _) = some (Value.int _ _); rw [char_val (i := 0) (k := 0) hD rfl]) (by show some (Value.int _ _) = some (Value.int _ _); rw [char_val (i := 0) (k := 0) hB rfl]) (by rfl) (fun j hj => absurd hj (Nat.not_lt_zero _)) ?_
  intro i t1' t2' t3' h9 tk9 hj F9 N9
  (try dsimp only)
  (try k_fold)
  have hc1 := letok_get hL i
  have hc2 := letok_get hM i
  k_steps
  · have hi2 : i < ns.length := by
      false_or_by_contra
      have := getD_beyond ns i (by omega)
      omega
    refine WEnd.intro (i + 1, _, _, _) (fr3 (by k_asm) (by rw [char_val (i := i + 1) hD (by omega)]) (by rw [char_val (i := i + 1) hB (by omega)]) (by rw [show ((i : Int) + 1) = ((i + 1 : Nat) : Int) by omega])) (by k_asm) (by dsimp only; omega) ?_
    intro j hj'
    dsimp only at hj'
    by_cases h : j < i
    · exact hj j h
    · rw [show j = i by omega]; exact ⟨by assumption, by assumption⟩
  all_goals (refine hret _ _ _ (by k_asm) (gsub_end kG' (by k_asm)) ⟨rfl, i, _, ⟨hj, fun h => by omega⟩, News.get (by k_asm) (by k_mem), regok_eq (by assumption) ?_⟩; unfold cmpV; (repeat' split) <;> omega)
theorem eq_off {prog : Program} {w : World} {A : Around} {E Q : Value → Shared → Prop} {s : Shared} {a b : Int} {t u : Tok} (h : a ≠ b) (hQ : Q (.bool false) s) : wpAny (model prog w) A (compareOp .Eq (.int a t) (.int b u)) Q E s := eq_int (by rw [beq_eq_false_iff_ne.mpr h]; exact hQ)
theorem reg_17_9 : True := by (k_with "compareOp Eq int int!" => (refine eq_off (by with_reducible assumption) ?_)); trivial
theorem reg_17_1 : True := by (k_with "call ref!" => ((with_reducible show wpAny _ _ (call (Value.ref 655) _) _ _ _); refine Halt.out ?_)); trivial
theorem reg_17_2 : True := by (k_with "call ref!" => ((with_reducible show wpAny _ _ (call (Value.ref 662) _) _ _ _); refine Halt.out ?_)); trivial
theorem reg_17_3 : True := by (k_with "call ref!" => ((with_reducible show wpAny _ _ (call (Value.ref 669) _) _ _ _); refine Halt.out ?_)); trivial
theorem reg_17_4 : True := by (k_with "call ref!" => ((with_reducible show wpAny _ _ (call (Value.ref 676) _) _ _ _); refine Halt.out ?_)); trivial
theorem reg_17_5 : True := by (k_with "call ref!" => ((with_reducible show wpAny _ _ (call (Value.ref 690) _) _ _ _); refine Halt.out ?_)); trivial
theorem reg_17_6 : True := by (k_with "call ref!" => ((with_reducible show wpAny _ _ (call (Value.ref 697) _) _ _ _); refine Halt.out ?_)); trivial
/-- host_call of the hostcalls: by the contract of what it calls -/
theorem con_no {w : World} {x : Addr} {k : Int} {tn : Tok} {CH : Led} {Pre R : Heap → Prop} (hS : Stays CH Pre) (h2 : 2 ≤ k ∧ k ≤ 8) (h6 : k ≠ 6) (C2 : k = 2 → Con w 25 655 [.ref x] CH Pre (fun _ r h' => r = .none ∧ R h')) (C3 : k = 3 → Con w 25 662 [.ref x] CH Pre (fun _ r h' => r = .none ∧ R h')) (C4 : k = 4 → Con w 25 669 [.ref x] CH Pre (fun _ r h' => r = .none ∧ R h')) (C5 : k = 5 → Con w 25 676 [.ref x] CH Pre (fun _ r h' => r = .none ∧ R h')) (C7 : k = 7 → Con w 25 690 [.ref x] CH Pre (fun _ r h' => r = .none ∧ R h')) (C8 : k = 8 → Con w 25 697 [.ref x] CH Pre (fun _ r h' => r = .none ∧ R h')) :
    Con w 30 704 [.ref x, .int k tn] CH Pre (fun _ r h' => r = .bool true ∧ R h') := by
  unfold Con
  intro dp un gd cn cs a' ccd cl outer A₀ base h₀ L m s mean mg' mb Q E B F X N T hck hdp hun hp hret
  walk_at "my_enter"
  intro g' L' h' FG' F' N' B' X' T' kG'
  (try dsimp only)
  (try k_fold)
  k_steps
  all_goals first | unfold Halt | (exfalso; first | exact h6 (by assumption) | omega)
  all_goals (refine' useA (by k_asm) (by k_asm) (by k_asm) (by k_asm) (by k_asm) (by first | exact rfl | assumption) (by ktr_room) (by ktr_units) (n := 25) (C := by first | exact C2 (by omega) | exact C3 (by omega) | exact C4 (by omega) | exact C5 (by omega) | exact C7 (by omega) | exact C8 (by omega)) (hp := ?hp) (ret := ?_); (case hp => exact hS _ _ _ _ N (gsub_end kG' (by k_asm)) hp); rintro r9 h9 tk9 F9 N9 ⟨e9, hR9⟩; subst e9; walk_at "my_z")
  all_goals k_steps
  all_goals exact hret _ _ _ (by k_asm) (gsub_end kG' (by k_asm)) ⟨rfl, hR9⟩
theorem con_no_ln (w : World) (x mem cpu rg wd mo mg : Addr) (oo : Obj) (xs : List Str) (hO : OutOk oo xs) (hz : xs.length ≤ 1000) (tn : Tok) :
    Con w 30 704 [.ref x, .int 6 tn] [(mo, oo)] (fun h => BoxAt h x mem cpu rg wd mo mg) (fun _ r h' => r = .bool true ∧ ∃ oo', h'.get? mo = some oo' ∧ OutOk oo' (xs ++ [Str.ofString "\n"])) := by
  unfold Con
  intro dp un gd cn cs a' ccd cl outer A₀ base h₀ L m s mean mg' mb Q E B F X N T hck hdp hun hp hret
  walk_at "my_enter"
  intro g' L' h' FG' F' N' B' X' T' kG'
  (try dsimp only)
  (try k_fold)
  have hMut : Mut s.heap ([(mo, oo)].map (·.1)) := .cons (N.get (.head _)) (mut_out hO) .nil
  have hBx := hp.sub kG' hMut
  have hMa := hBx.1
  refine MachAt.elim hMa ?_; intro dx K T V hx hdx
  obtain ⟨vs, k, rfl, hS⟩ := hO
  have hl := strs_len hS
  k_steps
  all_goals exact hret _ _ _ (by k_asm) (gsub_end kG' (by k_asm)) ⟨rfl, _, News.get (by k_asm) (.head _), _, _, rfl, strs_snoc hS _ _⟩
theorem reg_18_1 : True := by (k_with "call ref!" => ((with_reducible show wpAny _ _ (call (Value.ref 704) _) _ _ _); refine Halt.out ?_)); trivial
/-- the machine's kernel: by the contract of host_call -/
theorem con_kernel {w : World} {x : Addr} {k : Int} {tn : Tok} {CH : Led} {Pre R : Heap → Prop} (hS : Stays CH Pre) (h2 : 2 ≤ k ∧ k ≤ 8) (C : ∀ t, Con w 30 704 [.ref x, .int k t] CH Pre (fun _ r h' => r = .bool true ∧ R h')) :
    Con w 35 789 [.ref x, .int k tn] CH Pre (fun _ r h' => r = .none ∧ R h') := by
  unfold Con
  intro dp un gd cn cs a' ccd cl outer A₀ base h₀ L m s mean mg' mb Q E B F X N T hck hdp hun hp hret
  walk_at "my_enter"
  intro g' L' h' FG' F' N' B' X' T' kG'
  (try dsimp only)
  (try k_fold)
  have h1 : k ≠ 1 := by omega
  k_steps
  unfold Halt
  refine' useA (by k_asm) (by k_asm) (by k_asm) (by k_asm) (by k_asm) (by first | exact rfl | assumption) (by ktr_room) (by ktr_units) (C := C _) (hp := ?hp) (ret := ?_)
  (case hp => exact hS _ _ _ _ N (gsub_end kG' (by k_asm)) hp)
  rintro r9 h9 tk9 F9 N9 ⟨e9, hR9⟩
  subst e9
  walk_at "my_z"
  k_steps
  exact hret _ _ _ (by k_asm) (gsub_end kG' (by k_asm)) ⟨rfl, hR9⟩
theorem stays_kout {x mem cpu rg wd mo mg : Addr} {oo wo ro : Obj} {xs : List Str} (hO : OutOk oo xs) : Stays [(mo, oo)] (fun h => BoxAt h x mem cpu rg wd mo mg ∧ h.get? rg = some ro ∧ h.get? wd = some wo ∧ @Ne Nat rg mo ∧ @Ne Nat wd mo) := fun _ _ _ _ N G hp =>
  ⟨hp.1.sub G (.cons (N.get (.head _)) (mut_out hO) .nil), G _ _ hp.2.1 fun q => hp.2.2.2.1 (List.mem_singleton.mp q), G _ _ hp.2.2.1 fun q => hp.2.2.2.2 (List.mem_singleton.mp q), hp.2.2.2⟩
theorem stays_kin {w : World} {x mem cpu rg wd mo mg : Addr} {go wo ro : Obj} {W : Int → Int} {r0 : Int} {xs : List Int} (hG : GivenOk go xs) (hW : Words w wo W) (hR : RegOk ro r0) : Stays [(mg, go), (wd, wo)] (fun h => BoxAt h x mem cpu rg wd mo mg ∧ h.get? rg = some ro ∧ @Ne Nat rg mg) := fun _ _ _ _ N G hp => by
  refine ⟨hp.1.sub G (.cons (N.get (.head _)) (mut_given hG) (.cons (N.get (.tail _ (.head _))) (mut_words hW) .nil)), G _ _ hp.2.1 fun q => ?_, hp.2.2⟩
  obtain ⟨_, _, _, e, _⟩ := hR
  rcases List.mem_cons.mp q with q | q
  · exact hp.2.2 q
  · exact off_words hW hp.2.1 e (N.get (.tail _ (.head _))) q
theorem stays_kcmp {w : World} {x mem cpu rg wd mo mg : Addr} {wo ro : Obj} {W : Int → Int} {r0 : Int} (hW : Words w wo W) (hR : RegOk ro r0) : Stays [(rg, ro)] (fun h => BoxAt h x mem cpu rg wd mo mg ∧ h.get? wd = some wo) := fun _ _ _ _ N G hp => by
  refine ⟨hp.1.sub G (.cons (N.get (.head _)) (mut_regs hR) .nil), G _ _ hp.2 fun q => ?_⟩
  obtain ⟨_, _, _, e, _⟩ := hR
  obtain ⟨kvs, hd, -⟩ := hW
  exact list_off_dict (N.get (.head _)) e hp.2 hd (List.mem_singleton.mp q).symm
theorem con_k_int (w : World) (x mem cpu rg wd mo mg : Addr) (oo wo ro : Obj) (W : Int → Int) (r0 : Int) (xs : List Str) (hO : OutOk oo xs) (hz : xs.length ≤ 1000) (hW : Words w wo W) (hR : RegOk ro r0) (n u : Int) (hA0 : W 172 = n) (hA1 : W 173 = u) (tn : Tok) :
    Con w 35 789 [.ref x, .int 3 tn] [(mo, oo)] (fun h => BoxAt h x mem cpu rg wd mo mg ∧ h.get? rg = some ro ∧ h.get? wd = some wo ∧ @Ne Nat rg mo ∧ @Ne Nat wd mo) (fun _ r h' => r = .none ∧ ∃ oo', h'.get? mo = some oo' ∧ OutOk oo' (xs ++ [padT (sgn n) (sgn u)])) :=
  con_kernel (stays_kout hO) (by decide) (fun t => con_no (stays_kout hO) (by decide) (by decide) (C2 := fun e => absurd e (by decide)) (C3 := fun e => by first | exact absurd e (by decide) | exact (con_out_int w x mem cpu rg wd mo mg oo wo ro W r0 xs hO hz hW hR n u hA0 hA1).mono (by decide)) (C4 := fun e => absurd e (by decide)) (C5 := fun e => absurd e (by decide)) (C7 := fun e => absurd e (by decide)) (C8 := fun e => absurd e (by decide)))
theorem con_k_char (w : World) (x mem cpu rg wd mo mg : Addr) (oo wo ro : Obj) (W : Int → Int) (r0 : Int) (xs : List Str) (hO : OutOk oo xs) (hz : xs.length ≤ 1000) (hW : Words w wo W) (hR : RegOk ro r0) (n : Int) (hA0 : W 172 = n) (tn : Tok) :
    Con w 35 789 [.ref x, .int 4 tn] [(mo, oo)] (fun h => BoxAt h x mem cpu rg wd mo mg ∧ h.get? rg = some ro ∧ h.get? wd = some wo ∧ @Ne Nat rg mo ∧ @Ne Nat wd mo) (fun _ r h' => r = .none ∧ ∃ oo', h'.get? mo = some oo' ∧ OutOk oo' (xs ++ [⟨#[(n % 256).toNat]⟩])) :=
  con_kernel (stays_kout hO) (by decide) (fun t => con_no (stays_kout hO) (by decide) (by decide) (C2 := fun e => absurd e (by decide)) (C3 := fun e => absurd e (by decide)) (C4 := fun e => by first | exact absurd e (by decide) | exact (con_out_char w x mem cpu rg wd mo mg oo wo ro W r0 xs hO hz hW hR n hA0).mono (by decide)) (C5 := fun e => absurd e (by decide)) (C7 := fun e => absurd e (by decide)) (C8 := fun e => absurd e (by decide)))
theorem con_k_string (w : World) (x mem cpu rg wd mo mg : Addr) (oo wo ro : Obj) (W : Int → Int) (r0 : Int) (xs : List Str) (hO : OutOk oo xs) (hz : xs.length ≤ 1000) (hW : Words w wo W) (hR : RegOk ro r0) (p : Int) (ns : List Int) (hA0 : W 172 = p) (hA1 : W 173 = (ns.length : Int)) (hpp : 0 ≤ p ∧ p < 400) (hL : LetOk ns) (hB : ∀ i : Nat, i < ns.length → byteAt W (p + (i : Int)) = ns.getD i 0) (tn : Tok) :
    Con w 35 789 [.ref x, .int 5 tn] [(mo, oo)] (fun h => BoxAt h x mem cpu rg wd mo mg ∧ h.get? rg = some ro ∧ h.get? wd = some wo ∧ @Ne Nat rg mo ∧ @Ne Nat wd mo) (fun _ r h' => r = .none ∧ ∃ oo', h'.get? mo = some oo' ∧ OutOk oo' (xs ++ [joinT ns])) :=
  con_kernel (stays_kout hO) (by decide) (fun t => con_no (stays_kout hO) (by decide) (by decide) (C2 := fun e => absurd e (by decide)) (C3 := fun e => absurd e (by decide)) (C4 := fun e => absurd e (by decide)) (C5 := fun e => by first | exact absurd e (by decide) | exact (con_out_string w x mem cpu rg wd mo mg oo wo ro W r0 xs hO hz hW hR p ns hA0 hA1 hpp hL hB).mono (by decide)) (C7 := fun e => absurd e (by decide)) (C8 := fun e => absurd e (by decide)))
theorem con_k_ln (w : World) (x mem cpu rg wd mo mg : Addr) (oo : Obj) (xs : List Str) (hO : OutOk oo xs) (hz : xs.length ≤ 1000) (tn : Tok) :
    Con w 35 789 [.ref x, .int 6 tn] [(mo, oo)] (fun h => BoxAt h x mem cpu rg wd mo mg) (fun _ r h' => r = .none ∧ ∃ oo', h'.get? mo = some oo' ∧ OutOk oo' (xs ++ [Str.ofString "\n"])) :=
  con_kernel (fun _ _ _ _ N G hp => hp.sub G (.cons (N.get (.head _)) (mut_out hO) .nil)) (by decide) (fun t => con_no_ln w x mem cpu rg wd mo mg oo xs hO hz t)
theorem con_k_in_int (w : World) (x mem cpu rg wd mo mg : Addr) (go wo ro : Obj) (W : Int → Int) (r0 : Int) (xs : List Int) (hG : GivenOk go xs) (hz : xs.length ≤ 1000) (hW : Words w wo W) (hR : RegOk ro r0) (hA0 : W 172 = 96) (hA1 : W 173 = 106) (tn : Tok) :
    Con w 35 789 [.ref x, .int 7 tn] [(mg, go), (wd, wo)] (fun h => BoxAt h x mem cpu rg wd mo mg ∧ h.get? rg = some ro ∧ @Ne Nat rg mg) (fun _ r h' => r = .none ∧ ∃ go' wo' W', h'.get? mg = some go' ∧ h'.get? wd = some wo' ∧ GivenOk go' xs.tail ∧ Words w wo' W' ∧ InIntW W W' (takeOf (-2147483648) 2147483647 xs)) :=
  con_kernel (stays_kin hG hW hR) (by decide) (fun t => con_no (stays_kin hG hW hR) (by decide) (by decide) (C2 := fun e => absurd e (by decide)) (C3 := fun e => absurd e (by decide)) (C4 := fun e => absurd e (by decide)) (C5 := fun e => absurd e (by decide)) (C7 := fun e => by first | exact absurd e (by decide) | exact (con_in_int w x mem cpu rg wd mo mg go wo ro W r0 xs hG hz hW hR hA0 hA1).mono (by decide)) (C8 := fun e => absurd e (by decide)))
theorem con_k_in_char (w : World) (x mem cpu rg wd mo mg : Addr) (go wo ro : Obj) (W : Int → Int) (r0 : Int) (xs : List Int) (hG : GivenOk go xs) (hz : xs.length ≤ 1000) (hW : Words w wo W) (hR : RegOk ro r0) (hA0 : W 172 = 101) (hA1 : W 173 = 106) (tn : Tok) :
    Con w 35 789 [.ref x, .int 8 tn] [(mg, go), (wd, wo)] (fun h => BoxAt h x mem cpu rg wd mo mg ∧ h.get? rg = some ro ∧ @Ne Nat rg mg) (fun _ r h' => r = .none ∧ ∃ go' wo' W', h'.get? mg = some go' ∧ h'.get? wd = some wo' ∧ GivenOk go' xs.tail ∧ Words w wo' W' ∧ InCharW W W' (takeOf (0) 255 xs)) :=
  con_kernel (stays_kin hG hW hR) (by decide) (fun t => con_no (stays_kin hG hW hR) (by decide) (by decide) (C2 := fun e => absurd e (by decide)) (C3 := fun e => absurd e (by decide)) (C4 := fun e => absurd e (by decide)) (C5 := fun e => absurd e (by decide)) (C7 := fun e => absurd e (by decide)) (C8 := fun e => by first | exact absurd e (by decide) | exact (con_in_char w x mem cpu rg wd mo mg go wo ro W r0 xs hG hz hW hR hA0 hA1).mono (by decide)))
theorem con_k_cmp (w : World) (x mem cpu rg wd mo mg : Addr) (wo ro : Obj) (W : Int → Int) (r0 : Int) (hW : Words w wo W) (hR : RegOk ro r0) (p q : Int) (ns ms : List Int) (hA0 : W 172 = p) (hA1 : W 173 = (ns.length : Int)) (hA2 : W 174 = q) (hA3 : W 175 = (ms.length : Int)) (hpp : 0 ≤ p ∧ p < 400) (hqq : 0 ≤ q ∧ q < 400) (hL : LetOk ns) (hM : LetOk ms) (hB : ∀ i : Nat, i < ns.length → byteAt W (p + (i : Int)) = ns.getD i 0) (hD : ∀ i : Nat, i < ms.length → byteAt W (q + (i : Int)) = ms.getD i 0) (tn : Tok) :
    Con w 35 789 [.ref x, .int 2 tn] [(rg, ro)] (fun h => BoxAt h x mem cpu rg wd mo mg ∧ h.get? wd = some wo) (fun _ r h' => r = .none ∧ ∃ i ro', PartAt ns ms i ∧ h'.get? rg = some ro' ∧ RegOk ro' (cmpV (ns.getD i 0) (ms.getD i 0))) :=
  con_kernel (stays_kcmp hW hR) (by decide) (fun t => con_no (stays_kcmp hW hR) (by decide) (by decide) (C2 := fun e => by first | exact absurd e (by decide) | exact (con_compare w x mem cpu rg wd mo mg wo ro W r0 hW hR p q ns ms hA0 hA1 hA2 hA3 hpp hqq hL hM hB hD).mono (by decide)) (C3 := fun e => absurd e (by decide)) (C4 := fun e => absurd e (by decide)) (C5 := fun e => absurd e (by decide)) (C7 := fun e => absurd e (by decide)) (C8 := fun e => absurd e (by decide)))
section
variable {W W1 W2 : Int → Int} {a b c d : Int} {r : List Int} {ns ms ws : List Int}
theorem putW_0 : putW W (a :: r) (a :: r).length 172 = a % 4294967296 := by
  unfold putW; rw [if_pos (by simp only [List.length_cons]; omega)]; rfl
theorem putW_1 : putW W (a :: b :: r) (a :: b :: r).length 173 = b % 4294967296 := by
  unfold putW; rw [if_pos (by simp only [List.length_cons]; omega)]; rfl
theorem putW_2 : putW W (a :: b :: c :: r) (a :: b :: c :: r).length 174 = c % 4294967296 := by
  unfold putW; rw [if_pos (by simp only [List.length_cons]; omega)]; rfl
theorem putW_3 : putW W (a :: b :: c :: d :: r) (a :: b :: c :: d :: r).length 175 = d % 4294967296 := by
  unfold putW; rw [if_pos (by simp only [List.length_cons]; omega)]; rfl
theorem putW_low {i : Nat} {k : Int} (h : k < 172) : putW W ws i k = W k := by
  unfold putW; rw [if_neg (by omega)]
theorem byte_putW {i : Nat} (h : a < 688) : byteAt (putW W ws i) a = byteAt W a := by
  unfold byteAt; rw [putW_low (by omega)]
theorem bytes_1 {p : Int} {i : Nat} (h : BytesPut W W1 p ns ns.length) (hp : p + 7 < 680) (hl : ns.length ≤ 7) : ∀ j : Nat, j < ns.length → byteAt (putW W1 ws i) (p + (j : Int)) = ns.getD j 0 := fun j hj => by
  rw [byte_putW (by omega), h, if_pos (by omega)]
  congr 1; omega
theorem bytes_2 {p q : Int} {i : Nat} (h : BytesPut W W1 p ns ns.length) (h2 : BytesPut W1 W2 q ms ms.length) (hp : p + 7 < q) (hq : q + 7 < 680) (hl : ns.length ≤ 7) : ∀ j : Nat, j < ns.length → byteAt (putW W2 ws i) (p + (j : Int)) = ns.getD j 0 := fun j hj => by
  rw [byte_putW (by omega), h2, if_neg (by omega), h, if_pos (by omega)]
  congr 1; omega
theorem word_of_bytes {k : Int} (h1 : 0 ≤ W k ∧ W k < 4294967296) (h2 : 0 ≤ W1 k ∧ W1 k < 4294967296) (h : ∀ j, 0 ≤ j → j < 4 → byteAt W1 (4 * k + j) = byteAt W (4 * k + j)) : W1 k = W k := by
  have g : ∀ j : Int, 0 ≤ j → j < 4 → W1 k / 2 ^ (8 * j).toNat % 256 = W k / 2 ^ (8 * j).toNat % 256 := fun j h0 h4 => by
    have := h j h0 h4
    unfold byteAt at this
    rw [show (4 * k + j) / 4 = k by omega, show (4 * k + j) % 4 = j by omega] at this
    exact this
  have g0 := g 0 (by decide) (by decide)
  have g1 := g 1 (by decide) (by decide)
  have g2 := g 2 (by decide) (by decide)
  have g3 := g 3 (by decide) (by decide)
  simp at g0 g1 g2 g3
  omega
theorem bytes_word {p k : Int} (h1 : 0 ≤ W k ∧ W k < 4294967296) (h2 : 0 ≤ W1 k ∧ W1 k < 4294967296) (h : BytesPut W W1 p ns ns.length) (hk : 4 * k + 3 < p) : W1 k = W k :=
  word_of_bytes h1 h2 fun j h0 h4 => by rw [h, if_neg (by omega)]
end
/-- the variables of the two sides agree -/
noncomputable def Rel (W : Int → Int) (C : Str → Int) : Prop := W 24 = C (Str.ofString "Int") % 4294967296 ∧ ∀ a, a / 4 = 25 ∨ a / 4 = 26 → byteAt W a = if a = 101 then C (Str.ofString "Char") else if a = 106 then C (Str.ofString "done") else 0
theorem Rel.words {W W' : Int → Int} {C : Str → Int} (h : Rel W C) (h4 : W' 24 = W 24) (h5 : W' 25 = W 25) (h6 : W' 26 = W 26) : Rel W' C := by
  refine ⟨h4.trans h.1, fun a ha => ?_⟩
  rw [← h.2 a ha]
  rcases ha with e | e
  · exact byte_of_word h5 e
  · exact byte_of_word h6 e
theorem Rel.put {W : Int → Int} {C : Str → Int} {ws : List Int} {i : Nat} (h : Rel W C) : Rel (putW W ws i) C := h.words (putW_low (by decide)) (putW_low (by decide)) (putW_low (by decide))
theorem Rel.bytes {W W1 : Int → Int} {C : Str → Int} {p : Int} {ns : List Int} (h : Rel W C) (hW : ∀ k, 0 ≤ W k ∧ W k < 4294967296) (hW1 : ∀ k, 0 ≤ W1 k ∧ W1 k < 4294967296) (hB : BytesPut W W1 p ns ns.length) (hp : 130 < p) : Rel W1 C :=
  h.words (bytes_word (hW _) (hW1 _) hB (by omega)) (bytes_word (hW _) (hW1 _) hB (by omega)) (bytes_word (hW _) (hW1 _) hB (by omega))
theorem sInt_ne_done : Str.ofString "Int" ≠ Str.ofString "done" := by decide
theorem sChar_ne_done : Str.ofString "Char" ≠ Str.ofString "done" := by decide
theorem sInt_ne_char : Str.ofString "Int" ≠ Str.ofString "Char" := by decide
theorem Rel.inInt {W W' : Int → Int} {C : Str → Int} {o : Option Int} (h : Rel W C) (hI : InIntW W W' o) : Rel W' (inC (Str.ofString "Int") C o) := by
  obtain ⟨h1, h2, h3⟩ := hI
  cases o with
  | none =>
    refine ⟨?_, fun a ha => ?_⟩
    · show W' 24 = updC C _ 0 _ % _
      unfold updC; rw [if_neg sInt_ne_done, h2, h.1]
    · show byteAt W' a = if a = 101 then updC C _ 0 _ else if a = 106 then updC C _ 0 _ else 0
      unfold updC; rw [if_neg sChar_ne_done, if_pos rfl]
      rcases ha with e | e
      · rw [byte_of_word (h1 25 (by decide) (by decide)) e, h.2 a (.inl e)]
        by_cases q : a = 101
        · rw [if_pos q, if_pos q]
        · rw [if_neg q, if_neg q, if_neg (by omega), if_neg (by omega)]
      · rw [h3 a e]
        by_cases q : a = 106
        · rw [if_pos q, if_neg (by omega), if_pos q]
        · rw [if_neg q, h.2 a (.inr e), if_neg (by omega), if_neg q, if_neg (by omega), if_neg q]
  | some n =>
    refine ⟨?_, fun a ha => ?_⟩
    · show W' 24 = updC (updC C _ n) _ 1 _ % _
      unfold updC; rw [if_neg sInt_ne_done, if_pos rfl, h2]
    · show byteAt W' a = if a = 101 then updC (updC C _ n) _ 1 _ else if a = 106 then updC (updC C _ n) _ 1 _ else 0
      unfold updC; rw [if_neg sChar_ne_done, if_neg (Ne.symm sInt_ne_char), if_pos rfl]
      rcases ha with e | e
      · rw [byte_of_word (h1 25 (by decide) (by decide)) e, h.2 a (.inl e)]
        by_cases q : a = 101
        · rw [if_pos q, if_pos q]
        · rw [if_neg q, if_neg q, if_neg (by omega), if_neg (by omega)]
      · rw [h3 a e]
        by_cases q : a = 106
        · rw [if_pos q, if_neg (by omega), if_pos q]
        · rw [if_neg q, h.2 a (.inr e), if_neg (by omega), if_neg q, if_neg (by omega), if_neg q]
theorem Rel.inChar {W W' : Int → Int} {C : Str → Int} {o : Option Int} (ho : ∀ n, o = some n → 0 ≤ n ∧ n < 256) (h : Rel W C) (hI : InCharW W W' o) : Rel W' (inC (Str.ofString "Char") C o) := by
  obtain ⟨h1, h3⟩ := hI
  cases o with
  | none =>
    refine ⟨?_, fun a ha => ?_⟩
    · show W' 24 = updC C _ 0 _ % _
      unfold updC; rw [if_neg sInt_ne_done, h1 24 (by decide) (by decide), h.1]
    · show byteAt W' a = if a = 101 then updC C _ 0 _ else if a = 106 then updC C _ 0 _ else 0
      unfold updC; rw [if_neg sChar_ne_done, if_pos rfl, h3 a ha]
      by_cases q : a = 106
      · rw [if_pos q, if_neg (by omega), if_pos q]
      · rw [if_neg q]
        by_cases r : a = 101
        · rw [if_pos r, if_pos r, h.2 a ha, if_pos r]
        · rw [if_neg r, if_neg r, h.2 a ha, if_neg r, if_neg q, if_neg q]
  | some n =>
    have hn := ho n rfl
    refine ⟨?_, fun a ha => ?_⟩
    · show W' 24 = updC (updC C _ n) _ 1 _ % _
      unfold updC; rw [if_neg sInt_ne_done, if_neg sInt_ne_char, h1 24 (by decide) (by decide), h.1]
    · show byteAt W' a = if a = 101 then updC (updC C _ n) _ 1 _ else if a = 106 then updC (updC C _ n) _ 1 _ else 0
      unfold updC; rw [if_neg sChar_ne_done, if_pos rfl, if_pos rfl, h3 a ha]
      by_cases q : a = 106
      · rw [if_pos q, if_neg (by omega), if_pos q]
      · rw [if_neg q]
        by_cases r : a = 101
        · rw [if_pos r, if_pos r]
          exact Int.emod_eq_of_lt hn.1 hn.2
        · rw [if_neg r, if_neg r, h.2 a ha, if_neg r, if_neg q, if_neg q]
theorem takeOf_mem {lo hi n : Int} {xs : List Int} (h : takeOf lo hi xs = some n) : lo ≤ n ∧ n ≤ hi := by
  cases xs with
  | nil => cases h
  | cons x r =>
    rw [take_cons] at h
    by_cases q : x < lo ∨ hi < x
    · rw [if_pos q] at h; cases h
    · rw [if_neg q] at h
      have : x = n := Option.some.inj h
      omega
/-- the rows of letters ahead of the first nought, compared as Python compares lists -/
noncomputable def gtL : List Int → List Int → Bool
  | [], _ => false
  | _ :: _, [] => true
  | a :: r, b :: t => if a = b then gtL r t else decide (b < a)
theorem part_cut : ∀ (i : Nat) (ns ms : List Int), PartAt ns ms i → (∀ x ∈ ns, 0 ≤ x) → (∀ x ∈ ms, 0 ≤ x) →
    (cutL ns = cutL ms ↔ ns.getD i 0 = ms.getD i 0) ∧ (ns.getD i 0 ≠ ms.getD i 0 → gtL (cutL ns) (cutL ms) = decide (ms.getD i 0 < ns.getD i 0)) := by
  intro i
  induction i with
  | zero =>
    intro ns ms hP h1 h2
    have hn := hP.2
    cases ns with
    | nil =>
      cases ms with
      | nil => exact ⟨⟨fun _ => rfl, fun _ => rfl⟩, fun h => absurd rfl h⟩
      | cons b t =>
        have hb := h2 b (.head _)
        by_cases e : b = 0
        · subst e; exact ⟨⟨fun _ => rfl, fun _ => rfl⟩, fun h => absurd rfl h⟩
        · have hc : cutL (b :: t) = b :: cutL t := by unfold cutL; rw [List.takeWhile_cons, if_pos (by simpa using e)]
          refine ⟨⟨fun h => ?_, fun h => ?_⟩, fun _ => ?_⟩
          · rw [hc] at h; cases h
          · exact absurd (h : (0 : Int) = b).symm e
          · show false = decide (b < 0)
            rw [decide_eq_false (by omega)]
    | cons a r =>
      have ha := h1 a (.head _)
      by_cases e : a = 0
      · subst e
        have hc0 : cutL (0 :: r) = [] := by unfold cutL; rw [List.takeWhile_cons, if_neg (by simp)]
        rw [hc0]
        cases ms with
        | nil => exact ⟨⟨fun _ => rfl, fun _ => rfl⟩, fun h => absurd rfl h⟩
        | cons b t =>
          have hb := h2 b (.head _)
          by_cases e : b = 0
          · subst e
            have hc1 : cutL (0 :: t) = [] := by unfold cutL; rw [List.takeWhile_cons, if_neg (by simp)]
            rw [hc1]
            exact ⟨⟨fun _ => rfl, fun _ => rfl⟩, fun h => absurd rfl h⟩
          · have hc : cutL (b :: t) = b :: cutL t := by unfold cutL; rw [List.takeWhile_cons, if_pos (by simpa using e)]
            refine ⟨⟨fun h => ?_, fun h => ?_⟩, fun _ => ?_⟩
            · rw [hc] at h; cases h
            · exact absurd (h : (0 : Int) = b).symm e
            · show false = decide (b < 0)
              rw [decide_eq_false (by omega)]
      · have hc0 : cutL (a :: r) = a :: cutL r := by unfold cutL; rw [List.takeWhile_cons, if_pos (by simpa using e)]
        cases ms with
        | nil =>
          refine ⟨⟨fun h => ?_, fun h => ?_⟩, fun _ => ?_⟩
          · rw [hc0] at h; cases h
          · exact absurd (h : a = 0) e
          · rw [hc0]
            show true = decide (0 < a)
            rw [decide_eq_true (by omega)]
        | cons b t =>
          have hab : a ≠ b := fun q => hn ⟨q, e⟩
          have hb := h2 b (.head _)
          by_cases e2 : b = 0
          · have hc1 : cutL (b :: t) = [] := by unfold cutL; rw [List.takeWhile_cons, if_neg (by simp [e2])]
            rw [hc1, hc0]
            refine ⟨⟨fun h => (by cases h), fun h => absurd h hab⟩, fun _ => ?_⟩
            show true = decide (b < a)
            rw [decide_eq_true (by omega)]
          · have hc1 : cutL (b :: t) = b :: cutL t := by unfold cutL; rw [List.takeWhile_cons, if_pos (by simpa using e2)]
            rw [hc1, hc0]
            refine ⟨⟨fun h => (List.cons.inj h).1, fun h => absurd h hab⟩, fun _ => ?_⟩
            show (if a = b then _ else _) = _
            rw [if_neg hab]; rfl
  | succ i ih =>
    intro ns ms hP h1 h2
    have h0 := hP.1 0 (Nat.succ_pos _)
    cases ns with
    | nil => exact absurd rfl h0.2
    | cons a r =>
      have ha : a ≠ 0 := h0.2
      cases ms with
      | nil => exact absurd h0.1 ha
      | cons b t =>
        have hab : a = b := h0.1
        subst hab
        have hc0 : ∀ q : List Int, cutL (a :: q) = a :: cutL q := fun q => by unfold cutL; rw [List.takeWhile_cons, if_pos (by simpa using ha)]
        have := ih r t ⟨fun j hj => hP.1 (j + 1) (Nat.succ_lt_succ hj), hP.2⟩ (fun x hx => h1 x (.tail _ hx)) (fun x hx => h2 x (.tail _ hx))
        rw [hc0, hc0]
        refine ⟨⟨fun h => this.1.mp (List.cons.inj h).2, fun h => by rw [this.1.mpr h]⟩, fun h => ?_⟩
        have h3 := this.2 h
        show (if a = a then gtL (cutL r) (cutL t) else _) = decide (t.getD i 0 < r.getD i 0)
        rw [if_pos rfl, h3]
theorem drop_ints {vs : List Value} {ns : List Int} (h : IntsAre vs ns) (i : Nat) (hi : i < ns.length) : ∃ t, vs.toArray[((i : Nat) : Int).toNat]? = some (.int ns[i] t) := by
  obtain ⟨t, e⟩ := h.get i ns[i] (by simp [hi])
  exact ⟨t, by simpa using e⟩
theorem drop_none {vs : List Value} {i : Nat} (hi : vs.length ≤ i) : vs.toArray[((i : Nat) : Int).toNat]? = none := by simp; omega
open AutoSeq1 (wpAny_loadPart') in
open MeetsSeq MeetsSeq3 in
theorem gt_loop (l b : Addr) (vs us : List Value) (n n2 : Nat) {ns ms : List Int} (hv : IntsAre vs ns) (hu : IntsAre us ms) (k : Nat) :
    ∀ i : Nat, i ≤ ns.length → i ≤ ms.length → ns.length - i = k → Meets (Builtin.«list.__eq__.loop» ⟨[.ref l, .ref b, rawInt i, rawInt 4], []⟩)
      (fun A R s => s.heap.get? l = some { cls := .type "list", data := .seq vs.toArray n } ∧ s.heap.get? b = some { cls := .type "list", data := .seq us.toArray n2 } ∧
        R (.ok (.ret (.bool (gtL (ns.drop i) (ms.drop i))))) s) := by
  have hlv := hv.length
  have hlu := hu.length
  induction k with
  | zero =>
    intro i h1 h2 hk prog w A R s h
    obtain ⟨hp, g, d, tk, os⟩ := s; obtain ⟨hl, hb, h⟩ := h
    wp_walk using wpAny_loadPart' hl, wpAny_loadPart' hb
    have hi1 := drop_none (vs := vs) (i := i) (by omega)
    have hd : ns.drop i = [] := List.drop_of_length_le (by omega)
    rw [hd] at h
    rw [hi1]
    wp_walk using wpAny_loadPart' hl, wpAny_loadPart' hb
    show R (.ok (.ret (.bool (decide (vs.toArray.size > us.toArray.size))))) _
    rw [decide_eq_false (by simp only [List.size_toArray]; omega)]
    exact h
  | succ k ih =>
    intro i h1 h2 hk prog w A R s h
    obtain ⟨hp, g, d, tk, os⟩ := s; obtain ⟨hl, hb, h⟩ := h
    have hlt : i < ns.length := by omega
    obtain ⟨t, hi1⟩ := drop_ints hv i hlt
    have hd : ns.drop i = ns[i] :: ns.drop (i + 1) := List.drop_eq_getElem_cons hlt
    by_cases hlt2 : i < ms.length
    · obtain ⟨u, hi2⟩ := drop_ints hu i hlt2
      have hd2 : ms.drop i = ms[i] :: ms.drop (i + 1) := List.drop_eq_getElem_cons hlt2
      have hc : ((i : Int) + 1) = ((i + 1 : Nat) : Int) := by push_cast; rfl
      rw [hd, hd2] at h
      wp_walk using wpAny_loadPart' hl, wpAny_loadPart' hb
      rw [hi1, hi2]
      refine wpAny_bind (SeqAt.EqAt.int_int ns[i] t ms[i] u prog w _ _ ?_)
      by_cases e : ns[i] = ms[i]
      · have e' : (ns[i] == ms[i]) = true := by simpa using e
        rw [e']
        wp_walk
        rw [hc]
        have hg : gtL (ns[i] :: ns.drop (i + 1)) (ms[i] :: ms.drop (i + 1)) = gtL (ns.drop (i + 1)) (ms.drop (i + 1)) := if_pos e
        rw [hg] at h
        exact ⟨plainId_quiet plain_eq_loop _, codeAny_builtin entry_eq_loop (by
          rw [Around.under_plainId plain_eq_loop _]
          exact ih (i + 1) (by omega) (by omega) (by omega) prog w A R _ ⟨hl, hb, h⟩)⟩
      · have e' : (ns[i] == ms[i]) = false := by simpa using e
        rw [e']
        have hg : gtL (ns[i] :: ns.drop (i + 1)) (ms[i] :: ms.drop (i + 1)) = decide (ms[i] < ns[i]) := if_neg e
        rw [hg] at h
        wp_walk using wpAny_loadPart' hl, wpAny_loadPart' hb
        rw [hi1, hi2]
        refine wpAny_bind (show wpAny _ _ (richCompare .Gt (.int ns[i] t) (.int ms[i] u)) _ _ _ from gt_int ?_)
        wp_walk
        exact h
    · have hi2 := drop_none (vs := us) (i := i) (by omega)
      have hd2 : ms.drop i = [] := List.drop_of_length_le (by omega)
      rw [hd, hd2] at h
      wp_walk using wpAny_loadPart' hl, wpAny_loadPart' hb
      rw [hi1, hi2]
      wp_walk using wpAny_loadPart' hl, wpAny_loadPart' hb
      show R (.ok (.ret (.bool (decide (vs.toArray.size > us.toArray.size))))) _
      rw [decide_eq_true (by simp only [List.size_toArray]; omega)]
      exact h
open MeetsSeq MeetsSeq3 in
open AutoSeq1 (wpAny_loadPart') in
theorem list_gt_meets (l b : Addr) (vs us : List Value) (n n2 : Nat) {ns ms : List Int} (hv : IntsAre vs ns) (hu : IntsAre us ms) :
    Meets (Builtin.«list.__gt__» ⟨[.ref l, .ref b], []⟩)
      (fun A R s => s.heap.get? l = some { cls := .type "list", data := .seq vs.toArray n } ∧ s.heap.get? b = some { cls := .type "list", data := .seq us.toArray n2 } ∧ R (.ok (.ret (.bool (gtL ns ms)))) s) := by
  intro prog w A R s h
  obtain ⟨hp, g, d, tk, os⟩ := s; obtain ⟨hl, hb, h⟩ := h
  have f3 := AutoSeq1.sub_list_list
  wp_walk using wpAny_loadPart' hl, wpAny_loadPart' hb
  exact ⟨plainId_quiet plain_eq_loop _, codeAny_builtin entry_eq_loop (by
    rw [Around.under_plainId plain_eq_loop _]
    exact gt_loop l b vs us n n2 hv hu _ 0 (Nat.zero_le _) (Nat.zero_le _) rfl prog w A R _ ⟨hl, hb, h⟩)⟩
theorem list_gt {prog : Program} {w : World} {A : Around} {E Q : Value → Shared → Prop} {s : Shared} {l b : Addr} {vs us : List Value} {n n2 : Nat} {ns ms : List Int} (hl : s.heap.get? l = some (listOf vs.toArray n)) (hb : s.heap.get? b = some (listOf us.toArray n2)) (hv : IntsAre vs ns) (hu : IntsAre us ms) (hA : A.units < cLine) (h : Q (.bool (gtL ns ms)) s) :
    wpAny (model prog w) A (compareOp .Gt (.ref l) (.ref b)) Q E s :=
  cmp_ofGt (richCompare_meets_room (op := .Gt) ⟨_, hl, rfl⟩ ⟨_, hb, rfl⟩ PySem.F.slot_list_gt PySem.F.entry_list_gt (PySem.F.args_list_gt_2 _ _) (list_gt_meets l b vs us n n2 hv hu) ⟨hl, hb, (fun x => nomatch x), h⟩ hA)
/-- a class called: what it makes stands in the list made -/
noncomputable def ConC (w : World) (n : Nat) (f : Addr) (vs : List Value) (Made : Addr → Led → Value → Prop) : Prop :=
  ∀ (dp un : Nat) (gd : Option (List Code)) (cn : Str) (cs : Scope) (a : Addr) (ccd : Value) (cl : List (Str × Addr)) (outer : List Env) (A₀ : Around) (base h₀ : Heap) (L : Addr) (m : Str → Option Value) (s : Shared)
    (mean : ExcName → Option Value) (mg mb : Str → Option Value) (Q E : Value → Shared → Prop) (news : Led),
    Below A₀ base outer h₀ → Fr h₀ L s.heap m → (hd.heap_39 w.params).In h₀ → News h₀ L s.heap news → Top hd.view_39 LO mean mg mb h₀ → cs.kind = .function →
    dp + n < recursionLimit → un + 8 * n < cLine →
    (∀ r h' tk' D made, Fr h₀ L h' m → News h₀ L h' (made ++ news) → (∀ p ∈ news, p.1 < D) → Made D made r → Q r { s with heap := h', toks := tk' }) →
    wpAny (model PySem.Challenge.rw_pb0380_01.row.prog w) (ktrTop dp un gd cn cs L a ccd cl outer) (call (.ref f) vs) Q E s
theorem useC {w : World} {n : Nat} {f : Addr} {vs : List Value} {Made : Addr → Led → Value → Prop} {dp un : Nat} {gd : Option (List Code)} {cn : Str} {cs : Scope} {a : Addr} {ccd : Value} {cl : List (Str × Addr)} {outer : List Env} {A₀ : Around} {base h₀ : Heap} {L : Addr} {m : Str → Option Value} {s : Shared}
    {mean : ExcName → Option Value} {mg mb : Str → Option Value} {Q E : Value → Shared → Prop} {news : Led}
    (B : Below A₀ base outer h₀) (F : Fr h₀ L s.heap m) (X : (hd.heap_39 w.params).In h₀) (N : News h₀ L s.heap news) (T : Top hd.view_39 LO mean mg mb h₀) (hk : cs.kind = .function)
    (hdp : dp + n < recursionLimit) (hun : un + 8 * n < cLine) (C : ConC w n f vs Made)
    (ret : ∀ r h' tk' D made, Fr h₀ L h' m → News h₀ L h' (made ++ news) → (∀ p ∈ news, p.1 < D) → Made D made r → Q r { s with heap := h', toks := tk' }) :
    wpAny (model PySem.Challenge.rw_pb0380_01.row.prog w) (ktrTop dp un gd cn cs L a ccd cl outer) (call (.ref f) vs) Q E s :=
  C _ _ _ _ _ _ _ _ _ _ _ _ _ _ _ _ _ _ _ _ _ B F X N T hk hdp hun ret
theorem lt_all {news : Led} {D x : Addr} (l : ∀ p ∈ news, p.1 < D) (h : @LT.lt Nat _ D x) : ∀ p ∈ news, p.1 < x := fun p hp => Nat.lt_trans (l p hp) h
theorem news_two {h₀ h : Heap} {L x d : Addr} {o od : Obj} {news : Led} (N : News h₀ L h ((x, o) :: (d, od) :: news)) : News h₀ L h [(x, o), (d, od)] := fun p hp => N p (by
  rcases List.mem_cons.mp hp with rfl | hp
  · exact .head _
  · rw [List.mem_singleton.mp hp]; exact .tail _ (.head _))
/-- at the end of a class's call -/
theorem made_end {h₀ h1 h2 : Heap} {L x d : Addr} {o od : Obj} {news all made : Led} (N : News h₀ L h1 ((x, o) :: (d, od) :: news)) (G : GSub h1 h2 [x, d]) (l1 : ∀ p ∈ news, p.1 < d) (l2 : @LT.lt Nat _ d x) (K : News h₀ L h2 all) (hs : ∀ p ∈ made, p ∈ all) : News h₀ L h2 (made ++ news) := fun p hp => by
  rcases List.mem_append.mp hp with q | q
  · exact K p (hs p q)
  · have h := N p (.tail _ (.tail _ q))
    have hl : @LT.lt Nat _ p.1 d := l1 p q
    refine ⟨G _ _ h.1 ?_, h.2⟩
    intro hm
    rcases List.mem_cons.mp hm with e | e
    · rw [e] at hl; omega
    · rw [List.mem_singleton.mp e] at hl; omega
theorem reg_20_1 : True := by (k_with "my_class" => (refine' call_cls ?k1 ?k2 ?k3 ?k4 ?k5 ?k6 ?_; (case k1 => k_asm); (case k2 => k_asm); (case k3 => k_asm); (case k4 => k_is); (case k5 => k_is); (case k6 => k_is))); trivial
theorem reg_20_2 : True := by (k_with "my_init" => (refine' code_defG ?k1 ?k2 ?k3 ?k4 ?k5 ?kA ?kF ?kK ?k6 ?k7 ?k8 ?k9q ?kB ?_ ?c2 ?c3 ?c4 ?c5; (case kA => exact rfl); (case kF => exact rfl); (case kK => assumption); (case k1 => k_asm); (case k2 => k_asm); (case k3 => k_asm); (case k4 => exact news_two (by assumption)); (case k5 => k_asm); (case k6 => k_is); (case k7 => k_is); (case k8 => ktr_room); (case k9q => first | exact BindsTo.of_eq rfl | exact binds_K (by k_in) rfl (by k_is) rfl rfl rfl); (case c5 => decide); (case kB => exact locs rfl); (case c2 => exact rfl); (case c3 => exact rfl); (case c4 => exact rfl); k_whole)); trivial
theorem words_new {w : World} {o : Obj} (h : o.IsDictOf (intKind PySem.Challenge.rw_pb0380_01.row.prog w) []) : Words w o (fun _ => 0) := ⟨[], h, (fun _ h => nomatch h), fun _ => ⟨⟨Int.le_refl _, by show (0 : Int) < 4294967296; decide⟩, .inl ⟨rfl, rfl⟩⟩⟩
theorem held_new {w : World} {o : Obj} (h : o.IsDictOf (strKind PySem.Challenge.rw_pb0380_01.row.prog w) []) : HeldOk w o (fun _ => 0) := ⟨[], h, (fun _ h => nomatch h), fun _ => .inl ⟨rfl, rfl⟩⟩
theorem off_sys {a : Addr} (h : (a == sysModules) = false) : a ≠ sysModules := by simpa using h
theorem mem_of {h : Heap} {x dx wd : Addr} {k1 k2 n : Int} {t1 t2 t3 : Tok} (a : h.get? x = some (instObj 625 dx)) (b : h.get? dx = some (dictOf [⟨k1, .str (Str.ofString "size") t1, .int n t2⟩, ⟨k2, .str (Str.ofString "words") t3, .ref wd⟩] 2)) (e : n = 912) (c : (wd == sysModules) = false) : MemAt h x wd := by subst e; exact ⟨dx, k1, k2, t1, t2, t3, a, b, off_sys c⟩
theorem reg_20_3 : True := by (k_with "my_mem" => exact mem_of (by walk_at "my_base") (by walk_at "my_base") (by omega) (by assumption)); trivial
theorem reg_20_4 : True := by (k_with "eval Dict nil nil!" => (k_dflt (refine' newDict_K ?k1 ?k2 (TopRead.nolimit (by k_asm)) ?_; (case k1 => k_asm); (case k2 => k_asm); k_whole); intro d' h' o' F' N' l1 lo' hs' fs' hi' fi'; (try k_lt l1); (have hW' := words_new hi'); (have hH' := held_new hs'); (try k_sweep))); trivial
theorem units_make (A : Around) (args : Args) : (A.under (.builtin "type.__call__" args)).units = A.units + 1 := by simp [Around.under, Code.cUnits, Code.frames, Code.isFrame]
theorem reg_20_61 : True := by (k_with "my_ktr_units" => (first | exact units1 (by assumption) (by decide) | ((have hcL9 := cLine_is); (simp only [units_make, units_in1, units_deeper]); omega))); trivial
theorem con_rounded (w : World) (n : Int) (tn : Tok) (hn : (n + 16 - 1).fdiv 16 * 16 = n) : Con w 3 711 [.int n tn] [] (fun _ => True) (fun _ r _ => ∃ t, r = .int n t) := by
  unfold Con
  intro dp un gd cn cs a ccd cl outer A₀ base h₀ L m s mean mg mb Q E B F X N T hk hdp hun hp hret
  walk_at "my_enter"
  intro g' L' h' FG' F' N' B' X' T' kG'
  (try dsimp only)
  (try k_fold)
  k_steps
  exact hret _ _ _ (by k_asm) (gsub_end kG' (by k_asm)) (ret_int hn)
theorem reg_20_6 : True := by (k_with "call ref!" => ((with_reducible show wpAny _ _ (call (Value.ref 711) _) _ _ _); k_dflt (refine use0v (by k_asm) (by k_asm) (by k_asm) (by k_asm) (by k_asm) (by first | exact rfl | assumption) (by ktr_room) (by ktr_units) (C := con_rounded _ _ _ (by rfl)) (hp := trivial) (ret := ?_); intro t9q h9q tk9q F9q N9q; walk_at "my_z"))); trivial
noncomputable def MadeFrame (w : World) (D : Addr) (made : Led) (r : Value) : Prop :=
  ∃ (x cd : Addr) (oC : Obj) (K : Int × Int × Int × Int) (T : Tok × Tok × Tok × Tok) (V : Value × Value × Value), r = .ref x ∧ made = [(D, dictOf (heldE K T V cd) 4), (x, instObj 111 D), (cd, oC)] ∧ HeldOk w oC (fun _ => 0) ∧ (cd == sysModules) = false ∧ (@LT.lt Nat _ D x ∧ @LT.lt Nat _ x cd)
noncomputable def MadePlace (ld : Addr) (k : Str) (D : Addr) (made : Led) (r : Value) : Prop :=
  ∃ (x : Addr) (k0 k1 k2 : Int) (t0 t1 t2 tk : Tok), r = .ref x ∧ made = [(D, dictOf (placeE k0 k1 k2 t0 t1 t2 tk .none ld k) 3), (x, instObj 132 D)] ∧ @LT.lt Nat _ D x
noncomputable def MadeBare (D : Addr) (made : Led) (r : Value) : Prop :=
  ∃ (x ho hg : Addr) (K : Int × Int × Int × Int × Int × Int × Int × Int × Int × Int × Int × Int × Int × Int) (T : Tok × Tok × Tok × Tok × Tok × Tok × Tok × Tok × Tok × Tok × Tok × Tok × Tok × Tok) (V : Value × Value × Value × Value × Value × Value × Value × Value × Value × Value × Value × Value), r = .ref x ∧ made = [(D, dictOf (hostE K T V ho hg) 14), (x, instObj 174 D), (ho, listOf #[] 0)] ∧ (@LT.lt Nat _ D x ∧ @LT.lt Nat _ x ho)
noncomputable def MadeMemory (w : World) (n : Int) (D : Addr) (made : Led) (r : Value) : Prop :=
  ∃ (x wd : Addr) (oW : Obj) (s1 : Tok) (T : Tok × Tok), r = .ref x ∧ made = [(D, dictOf [⟨PyData.keyHash w.params (Str.ofString "size"), .str (Str.ofString "size") (T.1), .int n s1⟩, ⟨PyData.keyHash w.params (Str.ofString "words"), .str (Str.ofString "words") (T.2), .ref wd⟩] 2), (x, instObj 625 D), (wd, oW)] ∧ Words w oW (fun _ => 0) ∧ (wd == sysModules) = false ∧ (@LT.lt Nat _ D x ∧ @LT.lt Nat _ x wd)
noncomputable def MadeCpu (D : Addr) (made : Led) (r : Value) : Prop :=
  ∃ (x rg ro : Addr) (vs : List Value) (ns : List Int) (n : Nat) (K : Int × Int × Int × Int × Int × Int × Int × Int × Int) (T : Tok × Tok × Tok × Tok × Tok × Tok × Tok × Tok × Tok) (V : Value × Value × Value × Value × Value × Value × Value), r = .ref x ∧ made = [(D, dictOf (cpuE K T V (.ref ro) rg) 9), (x, instObj 562 D), (rg, listOf vs.toArray n), (ro, listOf #[] 0)] ∧ IntsAre vs ns ∧ ns.length = 16 ∧ (@LT.lt Nat _ D x ∧ @LT.lt Nat _ x rg ∧ @LT.lt Nat _ rg ro)
noncomputable def MadeMachine (w : World) (D : Addr) (made : Led) (r : Value) : Prop :=
  ∃ (x mem dm wd cpu dc rg mo mg : Addr) (oW : Obj) (W : Int → Int) (vs : List Value) (ns : List Int) (n : Nat) (u2 s1 : Tok) (K : Int × Int × Int × Int × Int × Int × Int × Int × Int × Int × Int) (T : Tok × Tok × Tok × Tok × Tok × Tok × Tok × Tok × Tok × Tok × Tok) (V : Value × Value × Value × Value × Value × Value) (k1 k2 : Int) (t1 t2 : Tok) (K2 : Int × Int × Int × Int × Int × Int × Int × Int × Int) (T2 : Tok × Tok × Tok × Tok × Tok × Tok × Tok × Tok × Tok) (V2 : Value × Value × Value × Value × Value × Value × Value) (v2 : Value),
    r = .ref x ∧ made = [(D, dictOf (machE K T V (.int 656 u2) mem cpu mo mg) 11), (x, instObj 792 D), (dm, dictOf (memE k1 k2 t1 s1 t2 wd) 2), (mem, instObj 625 dm), (wd, oW), (dc, dictOf (cpuE K2 T2 V2 v2 rg) 9), (cpu, instObj 562 dc), (rg, listOf vs.toArray n), (mo, listOf #[] 0)] ∧ IntsAre vs ns ∧ ns.length = 16 ∧ Words w oW W ∧ (W 24 = 0 ∧ W 25 = 0 ∧ W 26 = 0) ∧ (wd == sysModules) = false ∧ (@LT.lt Nat _ D x ∧ @LT.lt Nat _ x dm ∧ @LT.lt Nat _ dm mem ∧ @LT.lt Nat _ mem wd ∧ @LT.lt Nat _ wd dc ∧ @LT.lt Nat _ dc cpu ∧ @LT.lt Nat _ cpu rg ∧ @LT.lt Nat _ rg mo)
theorem reg_20_31 : True := by (k_with "my_in" => (repeat (first | exact List.forall_mem_nil _ | (refine List.forall_mem_cons.mpr ⟨by (repeat (first | exact List.Mem.head _ | apply List.Mem.tail)), ?_⟩)))); trivial
theorem con_placec (w : World) (ld : Addr) (k : Str) (t1 : Tok) : ConC w 6 132 [.ref ld, .str k t1, .none] (MadePlace ld k) := by
  unfold ConC
  intro dp un gd cn cs a ccd cl outer A₀ base h₀ L m s mean mg mb Q E news B F X N T hk hdp hun hret
  walk_at "my_class"
  intro x d h1 F1 N1 l1 l2
  (try k_lt2 l2)
  walk_at "my_init"
  intro g' L' h' FG' F' N' B' X' T' kG'
  clear F1
  (try dsimp only)
  (try k_fold)
  k_steps
  refine' hret _ _ _ d _ (by k_asm) (made_end N1 (gsub_end kG' (by k_asm)) l1 l2 (by k_asm) ?hs) l1 ⟨x, _, _, _, _, _, _, _, rfl, rfl, l2⟩
  (case hs => walk_at "my_in")
theorem con_frame (w : World) (t1 : Tok) : ConC w 6 111 [.int 0 t1, .none] (MadeFrame w) := by
  unfold ConC
  intro dp un gd cn cs a ccd cl outer A₀ base h₀ L m s mean mg mb Q E news B F X N T hk hdp hun hret
  walk_at "my_class"
  intro x d h1 F1 N1 l1 l2
  (try k_lt2 l2)
  walk_at "my_init"
  intro g' L' h' FG' F' N' B' X' T' kG'
  clear F1
  (try dsimp only)
  (try k_fold)
  k_steps
  refine' hret _ _ _ d _ (by k_asm) (made_end N1 (gsub_end kG' (by k_asm)) l1 l2 (by k_asm) ?hs) l1 ⟨x, _, _, (PyData.keyHash w.params (Str.ofString "level"), PyData.keyHash w.params (Str.ofString "link"), PyData.keyHash w.params (Str.ofString "module"), PyData.keyHash w.params (Str.ofString "cells")), (_, _, _, _), (_, _, _), rfl, rfl, ?f0, ?f1, ?f2, ?f3⟩
  (case hs => walk_at "my_in")
  (case f0 => assumption)
  (case f1 => assumption)
  (case f2 => first | assumption | exact Lo.lt (by assumption))
  (case f3 => first | assumption | exact Lo.lt (by assumption))
theorem con_bare (w : World) (t1 : Tok) : ConC w 6 174 [.int 10 t1] MadeBare := by
  unfold ConC
  intro dp un gd cn cs a ccd cl outer A₀ base h₀ L m s mean mg mb Q E news B F X N T hk hdp hun hret
  walk_at "my_class"
  intro x d h1 F1 N1 l1 l2
  (try k_lt2 l2)
  walk_at "my_init"
  intro g' L' h' FG' F' N' B' X' T' kG'
  clear F1
  (try dsimp only)
  (try k_fold)
  k_steps
  refine' hret _ _ _ d _ (by k_asm) (made_end N1 (gsub_end kG' (by k_asm)) l1 l2 (by k_asm) ?hs) l1 ⟨x, _, _, (PyData.keyHash w.params (Str.ofString "limit"), PyData.keyHash w.params (Str.ofString "steps"), PyData.keyHash w.params (Str.ofString "depth"), PyData.keyHash w.params (Str.ofString "most_depth"), PyData.keyHash w.params (Str.ofString "count"), PyData.keyHash w.params (Str.ofString "globals"), PyData.keyHash w.params (Str.ofString "procs"), PyData.keyHash w.params (Str.ofString "out"), PyData.keyHash w.params (Str.ofString "given"), PyData.keyHash w.params (Str.ofString "tracer"), PyData.keyHash w.params (Str.ofString "value_of"), PyData.keyHash w.params (Str.ofString "call"), PyData.keyHash w.params (Str.ofString "execute"), PyData.keyHash w.params (Str.ofString "host")), (_, _, _, _, _, _, _, _, _, _, _, _, _, _), (_, _, _, _, _, _, _, _, _, _, _, _), rfl, rfl, ?f0, ?f1⟩
  (case hs => walk_at "my_in")
  (case f0 => first | assumption | exact Lo.lt (by assumption))
  (case f1 => first | assumption | exact Lo.lt (by assumption))
theorem con_memory (w : World) (n : Int) (t1 : Tok) : ConC w 6 625 [.int n t1] (MadeMemory w n) := by
  unfold ConC
  intro dp un gd cn cs a ccd cl outer A₀ base h₀ L m s mean mg mb Q E news B F X N T hk hdp hun hret
  walk_at "my_class"
  intro x d h1 F1 N1 l1 l2
  (try k_lt2 l2)
  walk_at "my_init"
  intro g' L' h' FG' F' N' B' X' T' kG'
  clear F1
  (try dsimp only)
  (try k_fold)
  k_steps
  refine' hret _ _ _ d _ (by k_asm) (made_end N1 (gsub_end kG' (by k_asm)) l1 l2 (by k_asm) ?hs) l1 ⟨x, _, _, _, (_, _), rfl, rfl, ?f0, ?f1, ?f2, ?f3⟩
  (case hs => walk_at "my_in")
  (case f0 => assumption)
  (case f1 => assumption)
  (case f2 => first | assumption | exact Lo.lt (by assumption))
  (case f3 => first | assumption | exact Lo.lt (by assumption))
theorem con_cpu (w : World) (m0 : Addr) : ConC w 6 562 [.ref m0] MadeCpu := by
  unfold ConC
  intro dp un gd cn cs a ccd cl outer A₀ base h₀ L m s mean mg mb Q E news B F X N T hk hdp hun hret
  walk_at "my_class"
  intro x d h1 F1 N1 l1 l2
  (try k_lt2 l2)
  walk_at "my_init"
  intro g' L' h' FG' F' N' B' X' T' kG'
  clear F1
  (try dsimp only)
  (try k_fold)
  k_steps
  refine' hret _ _ _ d _ (by k_asm) (made_end N1 (gsub_end kG' (by k_asm)) l1 l2 (by k_asm) ?hs) l1 ⟨x, _, _, _, _, _, (PyData.keyHash w.params (Str.ofString "memory"), PyData.keyHash w.params (Str.ofString "regs"), PyData.keyHash w.params (Str.ofString "h"), PyData.keyHash w.params (Str.ofString "n"), PyData.keyHash w.params (Str.ofString "z"), PyData.keyHash w.params (Str.ofString "c"), PyData.keyHash w.params (Str.ofString "v"), PyData.keyHash w.params (Str.ofString "pc"), PyData.keyHash w.params (Str.ofString "rows")), (_, _, _, _, _, _, _, _, _), (_, _, _, _, _, _, _), rfl, rfl, ?f0, ?f1, ?f2, ?f3, ?f4⟩
  (case hs => walk_at "my_in")
  (case f0 => assumption)
  (case f1 => rfl)
  (case f2 => first | assumption | exact Lo.lt (by assumption))
  (case f3 => first | assumption | exact Lo.lt (by assumption))
  (case f4 => first | assumption | exact Lo.lt (by assumption))
theorem call_memory {w : World} {dp un : Nat} {gd : Option (List Code)} {cn : Str} {cs : Scope} {a : Addr} {ccd : Value} {cl : List (Str × Addr)} {outer : List Env} {A₀ : Around} {base h₀ : Heap} {L : Addr} {m : Str → Option Value} {s : Shared}
  {mean : ExcName → Option Value} {mg mb : Str → Option Value} {Q E : Value → Shared → Prop} {news : Led} {n : Int} {t1 : Tok} (B : Below A₀ base outer h₀) (F : Fr h₀ L s.heap m) (X : (hd.heap_39 w.params).In h₀) (N : News h₀ L s.heap news) (T : Top hd.view_39 LO mean mg mb h₀) (hk : cs.kind = .function)
    (hdp : dp + 6 < recursionLimit) (hun : un + 8 * 6 < cLine)
    (ret : ∀ x wd D oW s1 (T : Tok × Tok) h' tk', Fr h₀ L h' m → News h₀ L h' ((D, dictOf [⟨PyData.keyHash w.params (Str.ofString "size"), .str (Str.ofString "size") (T.1), .int n s1⟩, ⟨PyData.keyHash w.params (Str.ofString "words"), .str (Str.ofString "words") (T.2), .ref wd⟩] 2) :: (x, instObj 625 D) :: (wd, oW) :: news) →
      (∀ p ∈ news, p.1 < D) → (∀ p ∈ news, p.1 < x) → (∀ p ∈ news, p.1 < wd) → Lo D x → Lo D wd → Lo x wd → Words w oW (fun _ => 0) → (wd == sysModules) = false → Q (.ref x) { s with heap := h', toks := tk' }) :
    wpAny (model PySem.Challenge.rw_pb0380_01.row.prog w) (ktrTop dp un gd cn cs L a ccd cl outer) (call (.ref 625) [.int n t1]) Q E s :=
  useC B F X N T hk hdp hun (con_memory w n t1) fun r h' tk' D made F' N' l P => by
    obtain ⟨x, wd, oW, s1, T, rfl, rfl, hW, lo, q1, q2⟩ := P
    exact ret x wd D oW s1 T h' tk' F' N' l (lt_all l q1) (lt_all (lt_all l q1) q2) q1 (Nat.lt_trans q1 q2) q2 hW lo
theorem reg_20_33 : True := by (k_with "call ref!" => ((with_reducible show wpAny _ _ (call (Value.ref 625) _) _ _ _); k_dflt (refine call_memory (by k_asm) (by k_asm) (by k_asm) (by k_asm) (by k_asm) (by first | exact rfl | assumption) (by ktr_room) (by ktr_units) (ret := ?_); intro x9q wd9q D9q oW9q s9q T9q h9q tk9q F9q N9q off9q off8q off7q _ _ _ hW9q lo9q; k_lt off9q; k_lt off8q; k_lt off7q; walk_at "my_z"))); trivial
theorem call_cpu {w : World} {dp un : Nat} {gd : Option (List Code)} {cn : Str} {cs : Scope} {a : Addr} {ccd : Value} {cl : List (Str × Addr)} {outer : List Env} {A₀ : Around} {base h₀ : Heap} {L : Addr} {m : Str → Option Value} {s : Shared}
  {mean : ExcName → Option Value} {mg mb : Str → Option Value} {Q E : Value → Shared → Prop} {news : Led} {m0 : Addr} (B : Below A₀ base outer h₀) (F : Fr h₀ L s.heap m) (X : (hd.heap_39 w.params).In h₀) (N : News h₀ L s.heap news) (T : Top hd.view_39 LO mean mg mb h₀) (hk : cs.kind = .function)
    (hdp : dp + 6 < recursionLimit) (hun : un + 8 * 6 < cLine)
    (ret : ∀ x rg ro D vs ns n K T V h' tk', Fr h₀ L h' m → News h₀ L h' ((D, dictOf (cpuE K T V (.ref ro) rg) 9) :: (x, instObj 562 D) :: (rg, listOf vs.toArray n) :: (ro, listOf #[] 0) :: news) →
      (∀ p ∈ news, p.1 < D) → (∀ p ∈ news, p.1 < x) → (∀ p ∈ news, p.1 < rg) → (∀ p ∈ news, p.1 < ro) → Lo D x → Lo D rg → Lo D ro → Lo x rg → Lo x ro → Lo rg ro → IntsAre vs ns → ns.length = 16 → Q (.ref x) { s with heap := h', toks := tk' }) :
    wpAny (model PySem.Challenge.rw_pb0380_01.row.prog w) (ktrTop dp un gd cn cs L a ccd cl outer) (call (.ref 562) [.ref m0]) Q E s :=
  useC B F X N T hk hdp hun (con_cpu w m0) fun r h' tk' D made F' N' l P => by
    obtain ⟨x, rg, ro, vs, ns, n, K, T, V, rfl, rfl, hI, hl, q1, q2, q3⟩ := P
    exact ret x rg ro D vs ns n K T V h' tk' F' N' l (lt_all l q1) (lt_all (lt_all l q1) q2) (lt_all (lt_all (lt_all l q1) q2) q3) q1 (Nat.lt_trans q1 q2) (Nat.lt_trans (Nat.lt_trans q1 q2) q3) q2 (Nat.lt_trans q2 q3) q3 hI hl
theorem reg_20_34 : True := by (k_with "call ref!" => ((with_reducible show wpAny _ _ (call (Value.ref 562) _) _ _ _); k_dflt (refine call_cpu (by k_asm) (by k_asm) (by k_asm) (by k_asm) (by k_asm) (by first | exact rfl | assumption) (by ktr_room) (by ktr_units) (ret := ?_); intro x9q rg9q ro9q D9q vs9q ns9q n9q K9q T9q V9q h9q tk9q F9q N9q off9q off8q off7q off6q _ _ _ _ _ _ hI9q hl9q; k_lt off9q; k_lt off8q; k_lt off7q; k_lt off6q; walk_at "my_z"))); trivial
/-- ints of ten bits, k at most -/
noncomputable def RowN (o : Obj) (k : Nat) : Prop := ∃ (vs : List Value) (ns : List Int) (n : Nat), o = { cls := .type "list", data := .seq vs.toArray n } ∧ IntsAre vs ns ∧ (∀ x ∈ ns, 0 ≤ x ∧ x < 1024) ∧ ns.length ≤ k
theorem RowN.le {o : Obj} {k k' : Nat} (h : RowN o k) (e : k ≤ k') : RowN o k' := by
  obtain ⟨vs, ns, n, a, b, c, d⟩ := h
  exact ⟨vs, ns, n, a, b, c, Nat.le_trans d e⟩
theorem row_insert {w : World} {A : Around} {E Q : Value → Shared → Prop} {s : Shared} {h₀ : Heap} {L d : Addr} {m : Str → Option Value} {news : Led} {g : Obj → Led} {o : Obj} {k : Nat} {x : Int} {t u : Tok} (F : Fr h₀ L s.heap m) (N : News h₀ L s.heap news) (U : UpdF d o news g) (hR : RowN o k) (hk : k ≤ 2000) (hx : 0 ≤ x ∧ x < 1024)
    (h : ∀ h' o', Fr h₀ L h' m → News h₀ L h' (g o') → RowN o' (k + 1) → Q .none { s with heap := h' }) :
    wpAny (model PySem.Challenge.rw_pb0380_01.row.prog w) A (call (.builtin "list.insert") [.ref d, .int 0 u, .int x t]) Q E s := by
  obtain ⟨vs, ns, n, rfl, hi, hn, hl⟩ := hR
  have U2 : ∀ o', Upd d (listOf vs.toArray n) o' news (g o') := fun o' => by
    clear h F N hi
    induction U with
    | head a => exact .head a
    | tail a _ ih => exact .tail a ih
  have e : kl_ins vs.toArray.toList 0 (.int x t) = .int x t :: vs := by
    unfold kl_ins; simp
  refine kl_insert F N (by decide) e (U2 _) (by have := hi.length; simp only [sizeLine_eq]; omega) fun h' F' N' => h h' _ F' N' ⟨_, x :: ns, _, rfl, .cons _ _ hi, ?_, ?_⟩
  · intro y hy
    rcases List.mem_cons.mp hy with rfl | hy
    · exact hx
    · exact hn y hy
  · simp only [List.length_cons]; omega
theorem row_method {w : World} {A : Around} {E : Value → Shared → Prop} {s : Shared} {h₀ : Heap} {L d : Addr} {news : Led} {o : Obj} {k : Nat} {pl : Sem Bool} {Q : Value × List Value → Shared → Prop} (N : News h₀ L s.heap news) (hm : (d, o) ∈ news) (hR : RowN o k) (h : Q (.builtin "list.insert", [.ref d]) s) :
    wpAny (model PySem.Challenge.rw_pb0380_01.row.prog w) A (getMethod (.ref d) (Str.ofString "insert") pl) Q E s := by
  obtain ⟨vs, ns, n, rfl, -⟩ := hR
  exact kl_method N hm PySem.F.slot_list_insert PySem.F.type_list_insert h
theorem reg_21_1 : True := by (k_with "getMethod ref!" => ((with_reducible show wpAny _ _ (getMethod (Value.ref _) (Str.ofString "insert") _) _ _ _); k_dflt (refine row_method (by k_asm) (by k_mem) (by assumption) ?_))); trivial
theorem reg_21_2 : True := by (k_with "call builtin:list.insert!" => (k_dflt (refine row_insert (by k_asm) (by k_asm) (by k_updF) (by assumption) (by omega) (by omega) ?_); intro h9q o9q F9q N9q hR9q; (try dsimp only at N9q); (try k_sweep); (try dsimp only))); trivial
theorem reg_21_3 : True := by (k_with "exec For Name Subscript cons nil!" => ((rename Fr _ _ _ _ => F9q); (with_unfolding_all refine For_invVF F9q (by rfl) (by rfl) ?_))); trivial
theorem con_row (w : World) (sc : Addr) (vs : List Value) (ns : List Int) (hI : IntsAre vs ns) (hz : ns.length ≤ 1000) :
    Con w 3 803 [.ref sc] [] (fun h => h.IsList sc vs.toArray) (fun h r h' => ∃ a o, r = .ref a ∧ h.get? a = none ∧ h'.get? a = some o ∧ RowOk o) := by
  unfold Con
  intro dp un gd cn cs a ccd cl outer A₀ base h₀ L m s mean mg mb Q E B F X N T hk hdp hun hp hret
  walk_at "my_enter"
  intro g' L' h' FG' F' N' B' X' T' kG'
  (try dsimp only)
  (try k_fold)
  obtain ⟨so, hso, hcl, hda⟩ := hp
  have hsc : g'.IsList sc vs.toArray := ⟨so, kG' _ _ hso (by simp), hcl, hda⟩
  have hl := hI.length
  k_steps
  unfold Halt
  rename_i l0 h1 h2 D1 ws1 h3 F1 N1 hI1 hC1 hL1 l1
  refine kst_listL (σ := Obj) (fun o => [(D1, listOf ws1.toArray 0), (l0, o)]) (fun _ => []) (fun _ => True) [Str.ofString "value", Str.ofString "turns"] (fun pre o => RowN o (17 * pre.length)) _ (by rfl) (fun _ => .head _) hI1 (by k_asm) (by k_asm) trivial (fun _ h => nomatch h) ⟨[], [], 0, rfl, .nil, (fun _ h => nomatch h), Nat.zero_le _⟩ ?_ ?_
  · intro o9 pre post n9 t9 u9 h9 tk9 own9 he9 hm9 off9 _ hR9 F9 N9
    have hpl : pre.length < 60 := by
      have := congrArg List.length he9
      rw [List.length_append, List.length_cons] at this
      omega
    replace F9 : Fr g' L' h9 (fun y => if y = Str.ofString "cell" then some (.int n9 t9) else if [Str.ofString "value", Str.ofString "turns"].contains y then u9 y else _) := F9
    walk_at "my_turn"
    k_steps
    all_goals unfold Halt
    all_goals refine while_2 (d := l0) (σ := Obj × Int × Int) (Str.ofString "turns") (Str.ofString "value") (fun c t => .int c.2.2 t) (fun c t => .int c.2.1 t) (fun c => c.1) (fun c => RowN c.1 (17 * pre.length + 1 + c.2.2.toNat) ∧ 0 ≤ c.2.2 ∧ c.2.2 ≤ 16) (fun c => (16 - c.2.2).toNat) (_, _, 0) _ _ (by k_asm) (by k_asm) (by rfl) (by rfl) rfl (by k_mem) (by k_updF) ⟨RowN.le (by assumption) (by simp), by dsimp only; omega, by dsimp only; omega⟩ ?_
    all_goals (rintro ⟨o8, v8, j8⟩ t1 t2 h8 tk8 ⟨hR8, hj0, hj1⟩ F8 N8; (try dsimp only at hR8 hj0 hj1 F8 N8); (try dsimp only); (try k_fold))
    all_goals k_steps
    all_goals first
      | exact WEnd.intro ((_, _, j8 + 1), _, _) (fr2 (by k_asm) rfl rfl) (by k_asm) (by dsimp only; omega) ⟨RowN.le (by assumption) (by dsimp only; omega), by dsimp only; omega, by dsimp only; omega⟩
      | (refine InvEndN.intro (by k_asm) (by k_asm) ⟨o8, rfl, trivial, (fun _ h => nomatch h), ?_, RowN.le hR8 (by simp only [List.length_append, List.length_cons, List.length_nil]; omega)⟩ rfl (by (try dsimp only); kcf_all) (by walk_at "my_own"); intro z e1 _ e2; (simp at e2); simp [e1, e2])
  · intro o9 u9 h9 tk9 _ hR9 F9 N9
    replace F9 : Fr g' L' h9 (fun y => if y = Str.ofString "cell" then u9 y else if [Str.ofString "value", Str.ofString "turns"].contains y then u9 y else _) := F9
    walk_at "my_turn"
    k_steps
    refine hret _ _ _ (by k_asm) (gsub_end kG' (by k_asm)) ⟨_, _, rfl, fresh_of kG' (by k_asm) (.tail _ (.head _)) (by simp), News.get (by k_asm) (.tail _ (.head _)), ?_⟩
    obtain ⟨vs, ns', n, q1, q2, q3, q4⟩ := hR9
    exact ⟨vs, ns', n, q1, q2, q3, by omega⟩
theorem arr_of {h : Heap} {x dx ca : Addr} {k0 k1 k2 n : Int} {t0 t1 t2 tl : Tok} {v1 : Value} (a : h.get? x = some (instObj 89 dx)) (b : h.get? dx = some (dictOf (arrE k0 k1 k2 t0 t1 t2 tl v1 ca n) 3)) : ArrAt h x ca n := ⟨dx, k0, k1, k2, t0, t1, t2, tl, v1, a, b⟩
theorem place_of {h : Heap} {x dx ld : Addr} {k0 k1 k2 : Int} {k : Str} {t0 t1 t2 tk : Tok} {v2 : Value} (a : h.get? x = some (instObj 132 dx)) (b : h.get? dx = some (dictOf (placeE k0 k1 k2 t0 t1 t2 tk v2 ld k) 3)) : PlaceAt h x ld k := ⟨dx, k0, k1, k2, t0, t1, t2, tk, v2, a, b⟩
theorem pow_32 {prog : Program} {w : World} {A : Around} {E Q : Value → Shared → Prop} {s : Shared} {t u : Tok} (h : Q (.int 4294967296 s.toks) { s with toks := s.toks + 1 }) : wpAny (model prog w) A (binaryOp .Pow (.int 2 t) (.int 32 u)) Q E s := pow_int_small (by decide) (by decide) (by decide) h
theorem pow_31 {prog : Program} {w : World} {A : Around} {E Q : Value → Shared → Prop} {s : Shared} {t u : Tok} (h : Q (.int 2147483648 s.toks) { s with toks := s.toks + 1 }) : wpAny (model prog w) A (binaryOp .Pow (.int 2 t) (.int 31 u)) Q E s := pow_int_small (by decide) (by decide) (by decide) h
theorem reg_22_1 : True := by (k_with "binaryOp Pow int int!" => (with_reducible first | refine pow_32 ?_ | refine pow_31 ?_)); trivial
theorem let_mod {ns : List Int} (h : LetOk ns) : ((ns.length : Int)) % 4294967296 = (ns.length : Int) := by
  have := h.2.2
  omega
theorem let_len {ns : List Int} (h : LetOk ns) : ns.length ≤ 7 := h.2.2
theorem reg_22_2 : True := by (k_with "call ref!" => ((with_reducible show wpAny _ _ (call (Value.ref 789) [_, Value.int 3 _]) _ _ _); k_dflt (refine' use1n (by k_asm) (by k_asm) (by k_asm) (by k_asm) (by k_asm) (by first | exact rfl | assumption) (by ktr_room) (by ktr_units) (U := by k_updF) (C := con_k_int _ _ _ _ _ _ _ _ _ _ _ _ _ _ ?hO ?hz (by assumption) (by assumption) _ _ putW_0 putW_1 _) (hp := ⟨by walk_at "my_box", by walk_at "my_base", by walk_at "my_base", by first | with_reducible assumption | walk_at "my_neq" | assumption, by first | with_reducible assumption | walk_at "my_neq" | assumption⟩) (ret := ?_); (case hO => assumption); (case hz => omega); intro h9q tk9q o9q F9q N9q hO9q; (try dsimp only at N9q); walk_at "my_z"))); trivial
theorem reg_22_3 : True := by (k_with "call ref!" => ((with_reducible show wpAny _ _ (call (Value.ref 789) [_, Value.int 4 _]) _ _ _); k_dflt (refine' use1n (by k_asm) (by k_asm) (by k_asm) (by k_asm) (by k_asm) (by first | exact rfl | assumption) (by ktr_room) (by ktr_units) (U := by k_updF) (C := con_k_char _ _ _ _ _ _ _ _ _ _ _ _ _ _ ?hO ?hz (by assumption) (by assumption) _ putW_0 _) (hp := ⟨by walk_at "my_box", by walk_at "my_base", by walk_at "my_base", by first | with_reducible assumption | walk_at "my_neq" | assumption, by first | with_reducible assumption | walk_at "my_neq" | assumption⟩) (ret := ?_); (case hO => assumption); (case hz => omega); intro h9q tk9q o9q F9q N9q hO9q; (try dsimp only at N9q); walk_at "my_z"))); trivial
theorem reg_22_4 : True := by (k_with "call ref!" => ((with_reducible show wpAny _ _ (call (Value.ref 789) [_, Value.int 5 _]) _ _ _); k_dflt (refine' use1n (by k_asm) (by k_asm) (by k_asm) (by k_asm) (by k_asm) (by first | exact rfl | assumption) (by ktr_room) (by ktr_units) (U := by k_updF) (C := con_k_string _ _ _ _ _ _ _ _ _ _ _ _ _ _ ?hO ?hz (by assumption) (by assumption) 131 _ (putW_0.trans (by decide)) (putW_1.trans (let_mod (by assumption))) (by decide) (by assumption) (bytes_1 (by assumption) (by decide) (let_len (by assumption))) _) (hp := ⟨by walk_at "my_box", by walk_at "my_base", by walk_at "my_base", by first | with_reducible assumption | walk_at "my_neq" | assumption, by first | with_reducible assumption | walk_at "my_neq" | assumption⟩) (ret := ?_); (case hO => assumption); (case hz => omega); intro h9q tk9q o9q F9q N9q hO9q; (try dsimp only at N9q); walk_at "my_z"))); trivial
theorem reg_22_5 : True := by (k_with "call ref!" => ((with_reducible show wpAny _ _ (call (Value.ref 789) [_, Value.int 6 _]) _ _ _); k_dflt (refine' use1n (by k_asm) (by k_asm) (by k_asm) (by k_asm) (by k_asm) (by first | exact rfl | assumption) (by ktr_room) (by ktr_units) (U := by k_updF) (C := con_k_ln _ _ _ _ _ _ _ _ _ _ ?hO ?hz _) (hp := by walk_at "my_box") (ret := ?_); (case hO => assumption); (case hz => omega); intro h9q tk9q o9q F9q N9q hO9q; (try dsimp only at N9q); walk_at "my_z"))); trivial
theorem reg_22_6 : True := by (k_with "call ref!" => ((with_reducible show wpAny _ _ (call (Value.ref 789) [_, Value.int 7 _]) _ _ _); k_dflt (refine' use2n (by k_asm) (by k_asm) (by k_asm) (by k_asm) (by k_asm) (by first | exact rfl | assumption) (by ktr_room) (by ktr_units) (U := by k_updF) (U2 := by intro _; k_updF) (hm := by k_mem) (C := con_k_in_int _ _ _ _ _ _ _ _ _ _ _ _ _ _ ?hO ?hz (by assumption) (by assumption) (putW_0.trans (by decide)) (putW_1.trans (by decide)) _) (hp := ⟨by walk_at "my_box", by walk_at "my_base", by first | with_reducible assumption | walk_at "my_neq" | assumption⟩) (ret := ?_); (case hO => assumption); (case hz => omega); intro h9q tk9q o9q w9q W9q F9q N9q hP9q; have hG9q := hP9q.1; have hW9q := hP9q.2.1; have hI9q := hP9q.2.2; clear hP9q; (try dsimp only at N9q); walk_at "my_z"))); trivial
theorem reg_22_7 : True := by (k_with "call ref!" => ((with_reducible show wpAny _ _ (call (Value.ref 789) [_, Value.int 8 _]) _ _ _); k_dflt (refine' use2n (by k_asm) (by k_asm) (by k_asm) (by k_asm) (by k_asm) (by first | exact rfl | assumption) (by ktr_room) (by ktr_units) (U := by k_updF) (U2 := by intro _; k_updF) (hm := by k_mem) (C := con_k_in_char _ _ _ _ _ _ _ _ _ _ _ _ _ _ ?hO ?hz (by assumption) (by assumption) (putW_0.trans (by decide)) (putW_1.trans (by decide)) _) (hp := ⟨by walk_at "my_box", by walk_at "my_base", by first | with_reducible assumption | walk_at "my_neq" | assumption⟩) (ret := ?_); (case hO => assumption); (case hz => omega); intro h9q tk9q o9q w9q W9q F9q N9q hP9q; have hG9q := hP9q.1; have hW9q := hP9q.2.1; have hI9q := hP9q.2.2; clear hP9q; (try dsimp only at N9q); walk_at "my_z"))); trivial
theorem reg_22_8 : True := by (k_with "call ref!" => ((with_reducible show wpAny _ _ (call (Value.ref 789) [_, Value.int 2 _]) _ _ _); k_dflt (refine use1 (by k_asm) (by k_asm) (by k_asm) (by k_asm) (by k_asm) (by first | exact rfl | assumption) (by ktr_room) (by ktr_units) (U := by k_updF) (C := con_k_cmp _ _ _ _ _ _ _ _ _ _ _ _ (by assumption) (by assumption) 131 147 _ _ (putW_0.trans (by decide)) (putW_1.trans (let_mod (by assumption))) (putW_2.trans (by decide)) (putW_3.trans (let_mod (by assumption))) (by decide) (by decide) (by assumption) (by assumption) (bytes_2 (by assumption) (by assumption) (by decide) (by decide) (let_len (by assumption))) (bytes_1 (by assumption) (by decide) (let_len (by assumption))) _) (hp := ⟨by walk_at "my_box", by walk_at "my_base"⟩) (ret := ?_); rintro r9q h9q tk9q F9q N9q G9q ⟨e9q, i9q, o9q, hP9q, ho9q, hR9q⟩; subst e9q; replace N9q := N9q _ ho9q; clear G9q ho9q; (try dsimp only at N9q); walk_at "my_z"))); trivial
theorem reg_22_9 : True := by (k_with "call ref!" => ((with_reducible show wpAny _ _ (call (Value.ref 227) [_, _, _, Value.str (Str.ofString "Out") _, Value.str (Str.ofString "Int") _, _]) _ _ _); k_dflt (refine' use1d (by k_asm) (by k_asm) (by k_asm) (by k_asm) (by k_asm) (by first | exact rfl | assumption) (by ktr_room) (by ktr_units) (U := by k_updF) (C := con_hc_int _ _ _ _ _ _ _ ?hO ?hz _ _ _ _ ?ha _ _ _) (hp := ⟨HostAt.keep (by first | with_reducible assumption | walk_at "my_neq" | assumption) (by k_asm), by walk_at "my_base", by walk_at "my_neq"⟩) (ret := ?_); (case hO => assumption); (case hz => omega); (case ha => omega); intro r9q h9q tk9q o9q F9q N9q hO9q; (try dsimp only at N9q); walk_at "my_z"))); trivial
theorem reg_22_10 : True := by (k_with "call ref!" => ((with_reducible show wpAny _ _ (call (Value.ref 227) [_, _, _, Value.str (Str.ofString "Out") _, Value.str (Str.ofString "Char") _, _]) _ _ _); k_dflt (refine' use1d (by k_asm) (by k_asm) (by k_asm) (by k_asm) (by k_asm) (by first | exact rfl | assumption) (by ktr_room) (by ktr_units) (U := by k_updF) (C := con_hc_char _ _ _ _ _ _ _ ?hO ?hz _ _ ?ha _ _ _) (hp := ⟨HostAt.keep (by first | with_reducible assumption | walk_at "my_neq" | assumption) (by k_asm), by walk_at "my_base", by walk_at "my_neq"⟩) (ret := ?_); (case hO => assumption); (case hz => omega); (case ha => omega); intro r9q h9q tk9q o9q F9q N9q hO9q; (try dsimp only at N9q); walk_at "my_z"))); trivial
theorem reg_22_11 : True := by (k_with "call ref!" => ((with_reducible show wpAny _ _ (call (Value.ref 227) [_, _, _, Value.str (Str.ofString "Out") _, Value.str (Str.ofString "String") _, _]) _ _ _); k_dflt (refine' use1d (by k_asm) (by k_asm) (by k_asm) (by k_asm) (by k_asm) (by first | exact rfl | assumption) (by ktr_room) (by ktr_units) (U := by k_updF) (C := con_hc_string _ _ _ _ _ _ _ ?hO ?hz _ _ _ _ (by assumption) (by assumption) _ _ _) (hp := ⟨HostAt.keep (by first | with_reducible assumption | walk_at "my_neq" | assumption) (by k_asm), by walk_at "my_base", by walk_at "my_neq", arr_of (by walk_at "my_base") (by walk_at "my_base"), by walk_at "my_base", by first | with_reducible assumption | walk_at "my_neq" | assumption, by walk_at "my_neq"⟩) (ret := ?_); (case hO => assumption); (case hz => omega); intro r9q h9q tk9q o9q F9q N9q hO9q; (try dsimp only at N9q); walk_at "my_z"))); trivial
theorem reg_22_12 : True := by (k_with "call ref!" => ((with_reducible show wpAny _ _ (call (Value.ref 227) [_, _, _, Value.str (Str.ofString "Out") _, Value.str (Str.ofString "Ln") _, _]) _ _ _); k_dflt (refine' use1d (by k_asm) (by k_asm) (by k_asm) (by k_asm) (by k_asm) (by first | exact rfl | assumption) (by ktr_room) (by ktr_units) (U := by k_updF) (C := con_hc_ln _ _ _ _ _ _ _ ?hO ?hz _ _ _) (hp := ⟨HostAt.keep (by first | with_reducible assumption | walk_at "my_neq" | assumption) (by k_asm), by walk_at "my_base", by walk_at "my_neq"⟩) (ret := ?_); (case hO => assumption); (case hz => omega); intro r9q h9q tk9q o9q F9q N9q hO9q; (try dsimp only at N9q); walk_at "my_z"))); trivial
theorem reg_22_13 : True := by (k_with "call ref!" => ((with_reducible show wpAny _ _ (call (Value.ref 227) [_, _, _, Value.str (Str.ofString "In") _, Value.str (Str.ofString "Int") _, _]) _ _ _); k_dflt (refine' use2d (by k_asm) (by k_asm) (by k_asm) (by k_asm) (by k_asm) (by first | exact rfl | assumption) (by ktr_room) (by ktr_units) (U := by k_updF) (U2 := by intro _; k_updF) (hm := by k_mem) (C := con_hc_in_int _ _ _ _ _ _ _ _ _ _ _ _ _ ?hO ?hz (by assumption) _ _ _) (hp := ⟨HostAt.keep (by first | with_reducible assumption | walk_at "my_neq" | assumption) (by k_asm), by walk_at "my_base", by walk_at "my_neq", place_of (by walk_at "my_base") (by walk_at "my_base"), place_of (by walk_at "my_base") (by walk_at "my_base"), HeldAt.keep (by first | with_reducible assumption | walk_at "my_neq" | assumption) (by k_asm)⟩) (ret := ?_); (case hO => assumption); (case hz => omega); intro r9q h9q tk9q o9q c9q F9q N9q hP9q; have hG9q := hP9q.1; have hC9q := hP9q.2; clear hP9q; (try dsimp only at N9q); walk_at "my_z"))); trivial
theorem reg_22_14 : True := by (k_with "call ref!" => ((with_reducible show wpAny _ _ (call (Value.ref 227) [_, _, _, Value.str (Str.ofString "In") _, Value.str (Str.ofString "Char") _, _]) _ _ _); k_dflt (refine' use2d (by k_asm) (by k_asm) (by k_asm) (by k_asm) (by k_asm) (by first | exact rfl | assumption) (by ktr_room) (by ktr_units) (U := by k_updF) (U2 := by intro _; k_updF) (hm := by k_mem) (C := con_hc_in_char _ _ _ _ _ _ _ _ _ _ _ _ _ ?hO ?hz (by assumption) _ _ _) (hp := ⟨HostAt.keep (by first | with_reducible assumption | walk_at "my_neq" | assumption) (by k_asm), by walk_at "my_base", by walk_at "my_neq", place_of (by walk_at "my_base") (by walk_at "my_base"), place_of (by walk_at "my_base") (by walk_at "my_base"), HeldAt.keep (by first | with_reducible assumption | walk_at "my_neq" | assumption) (by k_asm)⟩) (ret := ?_); (case hO => assumption); (case hz => omega); intro r9q h9q tk9q o9q c9q F9q N9q hP9q; have hG9q := hP9q.1; have hC9q := hP9q.2; clear hP9q; (try dsimp only at N9q); walk_at "my_z"))); trivial
theorem cut_same {h₀ h h' : Heap} {L l : Addr} {o : Obj} {news : Led} (N : News h₀ L h news) (hm : (l, o) ∈ news) (G : GSub h h' [l]) (e : h'.get? l = some o) : GSub h h' [] := fun b o' hb _ => by
  by_cases q : b = l
  · subst q; rw [(N _ hm).1] at hb; cases hb; exact e
  · exact G b o' hb (by simpa using q)
theorem gs0 {h h' : Heap} {a : Addr} {o : Obj} (G : GSub h h' []) (e : h.get? a = some o) : h'.get? a = some o := G _ _ e (by simp)
theorem call_cut {w : World} {dp un : Nat} {gd : Option (List Code)} {cn : Str} {cs : Scope} {a : Addr} {ccd : Value} {cl : List (Str × Addr)} {outer : List Env} {A₀ : Around} {base h₀ : Heap} {L : Addr} {m : Str → Option Value} {s : Shared}
  {mean : ExcName → Option Value} {mg mb : Str → Option Value} {Q E : Value → Shared → Prop} {news : Led} {l : Addr} {vs : List Value} {ns : List Int} {n : Nat} {g : Obj → Led} (B : Below A₀ base outer h₀) (F : Fr h₀ L s.heap m) (X : (hd.heap_39 w.params).In h₀) (N : News h₀ L s.heap news) (T : Top hd.view_39 LO mean mg mb h₀) (hk : cs.kind = .function)
    (hdp : dp + 5 < recursionLimit) (hun : un + 8 * 5 < cLine) (hm : (l, listOf vs.toArray n) ∈ news) (U : UpdF l (listOf vs.toArray n) news g) (hI : IntsAre vs ns) (hz : ns.length ≤ 7)
    (ret : ∀ b us k h' tk', Fr h₀ L h' m → News h₀ L h' news → GSub s.heap h' [] → h'.get? b = some (listOf us.toArray k) → IntsAre us (cutL ns) → Q (.ref b) { s with heap := h', toks := tk' }) :
    wpAny (model PySem.Challenge.rw_pb0380_01.row.prog w) (ktrTop dp un gd cn cs L a ccd cl outer) (call (.ref 843) [.ref l]) Q E s :=
  use1 B F X N T hk hdp hun (con_cut w l vs ns n hI hz) trivial U fun r h' tk' F' N' G P => by
    obtain ⟨ho, b, us, k, rfl, hb, hU, _⟩ := P
    exact ret b us k h' tk' F' (updF_same U ▸ N' _ ho) (cut_same N hm G ho) hb hU
theorem reg_22_15 : True := by (k_with "call ref!" => ((with_reducible show wpAny _ _ (call (Value.ref 843) _) _ _ _); k_dflt (refine call_cut (by k_asm) (by k_asm) (by k_asm) (by k_asm) (by k_asm) (by first | exact rfl | assumption) (by ktr_room) (by ktr_units) (hm := by k_mem) (U := by k_updF) (hI := by assumption) (hz := let_len (by assumption)) (ret := ?_); intro a9q us9q n9q h9q tk9q F9q N9q G9q ha9q hI9q; walk_at "my_z"))); trivial
theorem call_letters {w : World} {dp un : Nat} {gd : Option (List Code)} {cn : Str} {cs : Scope} {a : Addr} {ccd : Value} {cl : List (Str × Addr)} {outer : List Env} {A₀ : Around} {base h₀ : Heap} {L : Addr} {m : Str → Option Value} {s : Shared}
  {mean : ExcName → Option Value} {mg mb : Str → Option Value} {Q E : Value → Shared → Prop} {news : Led} {rw : Addr} {ro : Obj} {g : Obj → Led} (B : Below A₀ base outer h₀) (F : Fr h₀ L s.heap m) (X : (hd.heap_39 w.params).In h₀) (N : News h₀ L s.heap news) (T : Top hd.view_39 LO mean mg mb h₀) (hk : cs.kind = .function)
    (hdp : dp + 9 < recursionLimit) (hun : un + 8 * 9 < cLine) (U : UpdF rw ro news g) (hR : RowOk ro)
    (ret : ∀ b vs ns k h' tk' o', Fr h₀ L h' m → News h₀ L h' ((b, listOf vs.toArray k) :: g o') → (∀ p ∈ news, Off p.1 b) → IntsAre vs ns → LetOk ns → ns.length ≤ 7 → RowOk o' → Q (.ref b) { s with heap := h', toks := tk' }) :
    wpAny (model PySem.Challenge.rw_pb0380_01.row.prog w) (ktrTop dp un gd cn cs L a ccd cl outer) (call (.ref 822) [.ref rw]) Q E s :=
  use1 B F X N T hk hdp hun (con_letters w rw ro hR) trivial U fun r h' tk' F' N' _ P => by
    obtain ⟨b, vs, ns, k, rfl, hb, hv, hI, hL, o', ho, hR'⟩ := P
    exact ret b vs ns k h' tk' o' F' (afterNew F (N' _ ho) hb hv) (off_all N hb) hI hL hL.2.2 hR'
theorem reg_22_19 : True := by (k_with "call ref!" => ((with_reducible show wpAny _ _ (call (Value.ref 822) _) _ _ _); k_dflt (refine call_letters (by k_asm) (by k_asm) (by k_asm) (by k_asm) (by k_asm) (by first | exact rfl | assumption) (by ktr_room) (by ktr_units) (U := by k_updF) (hR := by assumption) (ret := ?_); intro a9q vs9q ns9q n9q h9q tk9q o9q F9q N9q off9q hI9q hl9q hz9q hR9q; (try dsimp only at N9q); k_lt off9q; walk_at "my_z"))); trivial
theorem call_array {w : World} {dp un : Nat} {gd : Option (List Code)} {cn : Str} {cs : Scope} {a : Addr} {ccd : Value} {cl : List (Str × Addr)} {outer : List Env} {A₀ : Around} {base h₀ : Heap} {L : Addr} {m : Str → Option Value} {s : Shared}
  {mean : ExcName → Option Value} {mg mb : Str → Option Value} {Q E : Value → Shared → Prop} {news : Led} {x mem cpu rg wd mo mgg l : Addr} {wo : Obj} {W : Int → Int} {vs : List Value} {ns : List Int} {nl : Nat} {p : Int} {tp : Tok} {g : Obj → Led} (B : Below A₀ base outer h₀) (F : Fr h₀ L s.heap m) (X : (hd.heap_39 w.params).In h₀) (N : News h₀ L s.heap news) (T : Top hd.view_39 LO mean mg mb h₀) (hk : cs.kind = .function)
    (hdp : dp + 15 < recursionLimit) (hun : un + 8 * 15 < cLine) (hW : Words w wo W) (hpp : 0 ≤ p ∧ p < 200)
    (hp : BoxAt s.heap x mem cpu rg wd mo mgg ∧ s.heap.get? l = some (listOf vs.toArray nl) ∧ IntsAre vs ns ∧ LetOk ns) (U : UpdF wd wo news g)
    (ret : ∀ b db cb co k1 k2 k3 t1 t2 t3 t4 h' tk' o' W', Fr h₀ L h' m → News h₀ L h' ((b, instObj 89 db) :: (db, dictOf (arrE k1 k2 k3 t1 t3 t4 t2 .none cb ns.length) 3) :: (cb, co) :: g o') → (∀ p ∈ news, Off p.1 b) → (∀ p ∈ news, Off p.1 db) → (∀ p ∈ news, Off p.1 cb) → Off b db → Off b cb → Off db cb →
      Words w o' W' → BytesPut W W' p ns ns.length → CellOk w co ns ns.length → cb ≠ sysModules → Q (.ref b) { s with heap := h', toks := tk' }) :
    wpAny (model PySem.Challenge.rw_pb0380_01.row.prog w) (ktrTop dp un gd cn cs L a ccd cl outer) (call (.ref 836) [.ref x, .int p tp, .ref l]) Q E s :=
  use1 B F X N T hk hdp hun (con_array w x mem cpu rg wd mo mgg l wo W hW vs ns nl p tp hpp) hp U fun r h' tk' F' N' _ P => by
    obtain ⟨⟨o', W', ho, hW', hB⟩, b, db, cb, co, k1, k2, k3, t1, t2, t3, t4, rfl, hb, hd, hc, gb, gd, gc, hC, lo, n1, n2, n3⟩ := P
    exact ret b db cb co k1 k2 k3 t1 t2 t3 t4 h' tk' o' W' F' (afterNew F (afterNew F (afterNew F (N' _ ho) hc gc) hd gd) hb gb) (off_all N hb) (off_all N hd) (off_all N hc) n1 n2 n3 hW' hB hC lo
theorem reg_22_20 : True := by (k_with "call ref!" => ((with_reducible show wpAny _ _ (call (Value.ref 836) _) _ _ _); k_dflt (refine call_array (by k_asm) (by k_asm) (by k_asm) (by k_asm) (by k_asm) (by first | exact rfl | assumption) (by ktr_room) (by ktr_units) (U := by k_updF) (hW := by assumption) (hpp := by decide) (hp := ⟨by walk_at "my_box", by walk_at "my_base", by first | with_reducible assumption | walk_at "my_neq" | assumption, by first | with_reducible assumption | walk_at "my_neq" | assumption⟩) (ret := ?_); intro a9q d9q c9q co9q k19q k29q k39q t19q t29q t39q t49q h9q tk9q o9q W9q F9q N9q off9q off8q off7q n19q n29q n39q hW9q hB9q hC9q lo9q; (try dsimp only at N9q); k_lt off9q; k_lt off8q; k_lt off7q; walk_at "my_z"))); trivial
theorem reg_22_16 : True := by (k_with "my_cut" => (first | with_reducible assumption | exact gs0 (by assumption) (by assumption))); trivial
theorem reg_22_17 : True := by (k_with "compareOp Gt ref ref!" => (k_dflt (refine list_gt (by walk_at "my_cut") (by walk_at "my_cut") (by assumption) (by assumption) (by ktr_units) ?_); (try dsimp only))); trivial
theorem reg_22_18 : True := by (k_with "compareOp NotEq ref ref!" => (k_dflt (refine ke_ne_ints (PySem.IsL.isList (by walk_at "my_cut")) (PySem.IsL.isList (by walk_at "my_cut")) (by assumption) (by assumption) (by first | ktr_units | ke_room) ?_); (try dsimp only))); trivial
theorem reg_22_21 : True := by (k_with "call ref!" => ((with_reducible show wpAny _ _ (call (Value.ref 829) _) _ _ _); k_dflt (refine use1n (by k_asm) (by k_asm) (by k_asm) (by k_asm) (by k_asm) (by first | exact rfl | assumption) (by ktr_room) (by ktr_units) (U := by k_updF) (C := con_put _ _ _ _ _ _ _ _ _ _ _ _ _ (by assumption) (by assumption) _ _ _) (hp := ⟨by walk_at "my_box", by walk_at "my_base", by walk_at "my_base", by walk_at "my_ints", Nat.le_of_ble_eq_true (by rfl)⟩) (ret := ?_); intro h9q tk9q o9q F9q N9q hW9q; (try dsimp only at N9q); walk_at "my_z"))); trivial
theorem out_eq {o : Obj} {xs ys : List Str} (h : OutOk o xs) (e : xs = ys) : OutOk o ys := e ▸ h
theorem pad_eq {xs : List Str} {a b n u : Int} (h1 : a = n) (h2 : b = u) : xs ++ [padT a b] = xs ++ [padT n u] := by rw [h1, h2]
theorem chr_eq {xs : List Str} {a n : Int} (h : a = n % 256) : xs ++ [chr1 a] = xs ++ [⟨#[(n % 256).toNat]⟩] := by rw [h]; rfl
theorem Rel.bytes2 {W W1 W2 : Int → Int} {C : Str → Int} {p q : Int} {ns ms : List Int} (hB2 : BytesPut W1 W2 q ms ms.length) (hB1 : BytesPut W W1 p ns ns.length) (h : Rel W C) (hW : ∀ k, 0 ≤ W k ∧ W k < 4294967296) (hW1 : ∀ k, 0 ≤ W1 k ∧ W1 k < 4294967296) (hW2 : ∀ k, 0 ≤ W2 k ∧ W2 k < 4294967296) (hp : 130 < p) (hq : 130 < q) : Rel W2 C :=
  (h.bytes hW hW1 hB1 hp).bytes hW1 hW2 hB2 hq
theorem cmp_part {ns ms : List Int} {i : Nat} (hP : PartAt ns ms i) (hL : LetOk ns) (hM : LetOk ms) : (cutL ns = cutL ms ↔ ns.getD i 0 = ms.getD i 0) ∧ (ns.getD i 0 ≠ ms.getD i 0 → gtL (cutL ns) (cutL ms) = decide (ms.getD i 0 < ns.getD i 0)) := part_cut i ns ms hP (fun x hx => (hL.1 x hx).1) (fun x hx => (hM.1 x hx).1)
theorem cmp_0 {ns ms : List Int} {i : Nat} (hP : PartAt ns ms i) (hL : LetOk ns) (hM : LetOk ms) (e : cutL ns = cutL ms) : Value.bool (cmpV (ns.getD i 0) (ms.getD i 0) == 0) = .bool true := by
  have h := (cmp_part hP hL hM).1.mp e
  unfold cmpV
  rw [if_neg (by omega), if_neg (by omega)]; rfl
theorem cmp_1 {ns ms : List Int} {i : Nat} (hP : PartAt ns ms i) (hL : LetOk ns) (hM : LetOk ms) (e : ¬ cutL ns = cutL ms) (g : gtL (cutL ns) (cutL ms) = true) : Value.bool (cmpV (ns.getD i 0) (ms.getD i 0) == 1) = .bool true := by
  have h := (cmp_part hP hL hM).2 fun q => e ((cmp_part hP hL hM).1.mpr q)
  rw [g] at h
  have h := of_decide_eq_true h.symm
  unfold cmpV
  rw [if_neg (by omega), if_pos h]; rfl
theorem cmp_2 {ns ms : List Int} {i : Nat} (hP : PartAt ns ms i) (hL : LetOk ns) (hM : LetOk ms) (e : ¬ cutL ns = cutL ms) (g : gtL (cutL ns) (cutL ms) = false) : Value.bool (cmpV (ns.getD i 0) (ms.getD i 0) == 4294967296 - 1) = .bool true := by
  have e2 : ns.getD i 0 ≠ ms.getD i 0 := fun q => e ((cmp_part hP hL hM).1.mpr q)
  have h := (cmp_part hP hL hM).2 e2
  rw [g] at h
  have h := of_decide_eq_false h.symm
  unfold cmpV
  rw [if_pos (by omega)]; rfl
theorem reg_22_22 : True := by (k_with "my_true" => (first | rfl | exact cmp_0 (by assumption) (by assumption) (by assumption) (by assumption) | exact cmp_1 (by assumption) (by assumption) (by assumption) (by assumption) (by assumption) | exact cmp_2 (by assumption) (by assumption) (by assumption) (by assumption) (by assumption))); trivial
theorem reg_22_23 : True := by (k_with "my_rel" => (with_reducible first | assumption | exact Rel.put (by assumption) | exact Rel.put (Rel.bytes (by assumption) (Words.range (by assumption)) (Words.range (by assumption)) (by assumption) (by decide)) | exact Rel.put (Rel.bytes2 (by assumption) (by assumption) (by assumption) (Words.range (by assumption)) (Words.range (by assumption)) (Words.range (by assumption)) (by decide) (by decide)) | exact Rel.inInt (Rel.put (by assumption)) (by assumption) | exact Rel.inChar (fun n e => by have := takeOf_mem e; omega) (Rel.put (by assumption)) (by assumption))); trivial
theorem reg_22_24 : True := by (k_with "my_len" => (first | exact Nat.le_succ _ | exact Nat.le_refl _ | (simp only [List.length_append, List.length_cons, List.length_nil]; omega) | (rw [List.length_tail]; omega))); trivial
theorem reg_22_25 : True := by (k_with "my_outs" => (first | with_reducible assumption | (refine out_eq (by assumption) (pad_eq ?_ ?_) <;> (unfold sgn; split <;> omega)) | exact out_eq (by assumption) (chr_eq (by omega)))); trivial
/-- the addresses of what may change are apart -/
noncomputable def Apart (rw wd rg mo ho mg cd hg : Addr) : Prop := @List.Nodup Nat [rw, wd, rg, mo, ho, hg, mg, cd]
theorem call_place {w : World} {dp un : Nat} {gd : Option (List Code)} {cn : Str} {cs : Scope} {a : Addr} {ccd : Value} {cl : List (Str × Addr)} {outer : List Env} {A₀ : Around} {base h₀ : Heap} {L : Addr} {m : Str → Option Value} {s : Shared}
  {mean : ExcName → Option Value} {mg mb : Str → Option Value} {Q E : Value → Shared → Prop} {news : Led} {ld : Addr} {k : Str} {t1 : Tok} (B : Below A₀ base outer h₀) (F : Fr h₀ L s.heap m) (X : (hd.heap_39 w.params).In h₀) (N : News h₀ L s.heap news) (T : Top hd.view_39 LO mean mg mb h₀) (hk : cs.kind = .function)
    (hdp : dp + 6 < recursionLimit) (hun : un + 8 * 6 < cLine)
    (ret : ∀ b db k0 k1 k2 t0 t1 t2 tk h' tk', Fr h₀ L h' m → News h₀ L h' ((db, dictOf (placeE k0 k1 k2 t0 t1 t2 tk .none ld k) 3) :: (b, instObj 132 db) :: news) → (∀ p ∈ news, p.1 < db) → (∀ p ∈ news, p.1 < b) → Lo db b → Q (.ref b) { s with heap := h', toks := tk' }) :
    wpAny (model PySem.Challenge.rw_pb0380_01.row.prog w) (ktrTop dp un gd cn cs L a ccd cl outer) (call (.ref 132) [.ref ld, .str k t1, .none]) Q E s :=
  useC B F X N T hk hdp hun (con_placec w ld k t1) fun r h' tk' D made F' N' l P => by
    obtain ⟨b, k0, k1, k2, t0, t1, t2, tk, rfl, rfl, q⟩ := P
    exact ret b D k0 k1 k2 t0 t1 t2 tk h' tk' F' N' l (lt_all l q) q
theorem reg_22_42 : True := by (k_with "call ref!" => ((with_reducible show wpAny _ _ (call (Value.ref 132) _) _ _ _); k_dflt (refine call_place (by k_asm) (by k_asm) (by k_asm) (by k_asm) (by k_asm) (by first | exact rfl | assumption) (by ktr_room) (by ktr_units) (ret := ?_); intro b9q db9q k09q k19q k29q t09q t19q t29q tk9q h9q tl9q F9q N9q off9q off8q n19q; k_lt off9q; k_lt off8q; walk_at "my_z"))); trivial
theorem mod_split7 {prog : Program} {w : World} {A : Around} {E Q : Value → Shared → Prop} {s : Shared} {x : Int} {t u : Tok} (h : ∀ k : Int, (k = 0 ∨ k = 1 ∨ k = 2 ∨ k = 3 ∨ k = 4 ∨ k = 5 ∨ k = 6) → Q (.int k s.toks) { s with toks := s.toks + 1 }) : wpAny (model prog w) A (binaryOp .Mod (.int x t) (.int 7 u)) Q E s :=
  mod_pos (by decide) (h _ (by omega))
theorem reg_22_41 : True := by (k_with "binaryOp Mod int int!" => ((with_reducible refine mod_split7 ?_); intro k9q hk9q; (rcases hk9q with e9q | e9q | e9q | e9q | e9q | e9q | e9q <;> (subst e9q; refine Halt.out ?_)))); trivial
theorem con_deed (w : World) (rw x mem cpu rg wd mo mg hs ho hg ld cd : Addr) (oR oW oG oM oH gH gM oC : Obj) (W : Int → Int) (r0 : Int) (xs : List Str) (gs : List Int) (C : Str → Int)
    (hR : RowOk oR) (hW : Words w oW W) (hG : RegOk oG r0) (hM : OutOk oM xs) (hH : OutOk oH xs) (hgH : GivenOk gH gs) (hgM : GivenOk gM gs) (hC : HeldOk w oC C) (hz : xs.length ≤ 900) (hy : gs.length ≤ 1000) (hRel : Rel W C) :
    Con w 45 850 [.ref rw, .ref x, .ref hs, .ref ld] [(rw, oR), (wd, oW), (rg, oG), (mo, oM), (ho, oH), (hg, gH), (mg, gM), (cd, oC)] (fun h => BoxAt h x mem cpu rg wd mo mg ∧ HostAt h hs ho hg ∧ HeldAt h ld cd ∧ Apart rw wd rg mo ho mg cd hg)
      (fun _ r h' => r = .bool true ∧ ∃ oR' oW' oG' oM' oH' gH' gM' oC' W' r0' xs' gs' C', (h'.get? rw = some oR' ∧ h'.get? wd = some oW' ∧ h'.get? rg = some oG' ∧ h'.get? mo = some oM' ∧ h'.get? ho = some oH' ∧ h'.get? hg = some gH' ∧ h'.get? mg = some gM' ∧ h'.get? cd = some oC') ∧
        (RowOk oR' ∧ Words w oW' W' ∧ RegOk oG' r0' ∧ OutOk oM' xs' ∧ OutOk oH' xs' ∧ GivenOk gH' gs' ∧ GivenOk gM' gs' ∧ HeldOk w oC' C') ∧ xs'.length ≤ xs.length + 1 ∧ gs'.length ≤ gs.length ∧ Rel W' C') := by
  unfold Con
  intro dp un gd cn cs a' ccd cl outer A₀ base h₀ L m s mean mg' mb Q E B F X N T hck hdp hun hp hret
  walk_at "my_enter"
  intro g' L' h' FG' F' N' B' X' T' kG'
  (try dsimp only)
  (try k_fold)
  obtain ⟨hp1, hp2, hp3, hAp⟩ := hp
  unfold Apart at hAp
  simp only [List.nodup_cons, List.mem_cons, List.not_mem_nil, or_false, not_or, not_false_eq_true, List.nodup_nil, and_true, ← ne_eq] at hAp
  obtain ⟨⟨a1, a2, a3, a4, a5, a6, a7⟩, ⟨b2, b3, b4, b5, b6, b7⟩, ⟨c3, c4, c5, c6, c7⟩, ⟨d4, d5, d6, d7⟩, ⟨e5, e6, e7⟩, ⟨f6, f7⟩, g7⟩ := hAp
  replace a1 := Off.mk a1; replace a2 := Off.mk a2; replace a3 := Off.mk a3; replace a4 := Off.mk a4; replace a5 := Off.mk a5; replace a6 := Off.mk a6; replace a7 := Off.mk a7; replace b2 := Off.mk b2; replace b3 := Off.mk b3; replace b4 := Off.mk b4; replace b5 := Off.mk b5; replace b6 := Off.mk b6; replace b7 := Off.mk b7; replace c3 := Off.mk c3; replace c4 := Off.mk c4; replace c5 := Off.mk c5; replace c6 := Off.mk c6; replace c7 := Off.mk c7; replace d4 := Off.mk d4; replace d5 := Off.mk d5; replace d6 := Off.mk d6; replace d7 := Off.mk d7; replace e5 := Off.mk e5; replace e6 := Off.mk e6; replace e7 := Off.mk e7; replace f6 := Off.mk f6; replace f7 := Off.mk f7; replace g7 := Off.mk g7
  have hMut : Mut s.heap ([(rw, oR), (wd, oW), (rg, oG), (mo, oM), (ho, oH), (hg, gH), (mg, gM), (cd, oC)].map (·.1)) :=
    .cons (N.get (by k_mem)) (mut_row hR) (.cons (N.get (by k_mem)) (mut_words hW) (.cons (N.get (by k_mem)) (mut_regs hG) (.cons (N.get (by k_mem)) (mut_out hM) (.cons (N.get (by k_mem)) (mut_out hH) (.cons (N.get (by k_mem)) (mut_given hgH) (.cons (N.get (by k_mem)) (mut_given hgM) (.cons (N.get (by k_mem)) (mut_held hC) .nil)))))))
  have hBx := hp1.sub kG' hMut
  have hHo := hp2.sub kG' hMut
  have hHe := hp3.sub kG' hMut
  have hMa := hBx.1; have hCp := hBx.2.1; have hMe := hBx.2.2
  refine MachAt.elim hMa ?_; intro dx K T V hx hdx
  refine CpuAt.elim hCp ?_; intro dc K2 T2 V2 hc hdc
  k_steps
  · unfold Halt
    k_steps
    all_goals refine hret _ _ _ (by k_asm) (gsub_end kG' (by k_asm)) ⟨by walk_at "my_true", _, _, _, _, _, _, _, _, _, _, _, _, _, ⟨News.get (by k_asm) (by k_mem), News.get (by k_asm) (by k_mem), News.get (by k_asm) (by k_mem), News.get (by k_asm) (by k_mem), News.get (by k_asm) (by k_mem), News.get (by k_asm) (by k_mem), News.get (by k_asm) (by k_mem), News.get (by k_asm) (by k_mem)⟩, ⟨by assumption, by assumption, by assumption, by assumption, by walk_at "my_outs", by assumption, by assumption, by assumption⟩, by walk_at "my_len", by walk_at "my_len", by walk_at "my_rel"⟩
  · unfold Halt
    k_steps
    all_goals refine hret _ _ _ (by k_asm) (gsub_end kG' (by k_asm)) ⟨by walk_at "my_true", _, _, _, _, _, _, _, _, _, _, _, _, _, ⟨News.get (by k_asm) (by k_mem), News.get (by k_asm) (by k_mem), News.get (by k_asm) (by k_mem), News.get (by k_asm) (by k_mem), News.get (by k_asm) (by k_mem), News.get (by k_asm) (by k_mem), News.get (by k_asm) (by k_mem), News.get (by k_asm) (by k_mem)⟩, ⟨by assumption, by assumption, by assumption, by assumption, by walk_at "my_outs", by assumption, by assumption, by assumption⟩, by walk_at "my_len", by walk_at "my_len", by walk_at "my_rel"⟩
  · unfold Halt
    k_steps
    all_goals refine hret _ _ _ (by k_asm) (gsub_end kG' (by k_asm)) ⟨by walk_at "my_true", _, _, _, _, _, _, _, _, _, _, _, _, _, ⟨News.get (by k_asm) (by k_mem), News.get (by k_asm) (by k_mem), News.get (by k_asm) (by k_mem), News.get (by k_asm) (by k_mem), News.get (by k_asm) (by k_mem), News.get (by k_asm) (by k_mem), News.get (by k_asm) (by k_mem), News.get (by k_asm) (by k_mem)⟩, ⟨by assumption, by assumption, by assumption, by assumption, by walk_at "my_outs", by assumption, by assumption, by assumption⟩, by walk_at "my_len", by walk_at "my_len", by walk_at "my_rel"⟩
  · unfold Halt
    k_steps
    all_goals refine hret _ _ _ (by k_asm) (gsub_end kG' (by k_asm)) ⟨by walk_at "my_true", _, _, _, _, _, _, _, _, _, _, _, _, _, ⟨News.get (by k_asm) (by k_mem), News.get (by k_asm) (by k_mem), News.get (by k_asm) (by k_mem), News.get (by k_asm) (by k_mem), News.get (by k_asm) (by k_mem), News.get (by k_asm) (by k_mem), News.get (by k_asm) (by k_mem), News.get (by k_asm) (by k_mem)⟩, ⟨by assumption, by assumption, by assumption, by assumption, by walk_at "my_outs", by assumption, by assumption, by assumption⟩, by walk_at "my_len", by walk_at "my_len", by walk_at "my_rel"⟩
  · unfold Halt
    k_steps
    all_goals refine hret _ _ _ (by k_asm) (gsub_end kG' (by k_asm)) ⟨by walk_at "my_true", _, _, _, _, _, _, _, _, _, _, _, _, _, ⟨News.get (by k_asm) (by k_mem), News.get (by k_asm) (by k_mem), News.get (by k_asm) (by k_mem), News.get (by k_asm) (by k_mem), News.get (by k_asm) (by k_mem), News.get (by k_asm) (by k_mem), News.get (by k_asm) (by k_mem), News.get (by k_asm) (by k_mem)⟩, ⟨by assumption, by assumption, by assumption, by assumption, by walk_at "my_outs", by assumption, by assumption, by assumption⟩, by walk_at "my_len", by walk_at "my_len", by walk_at "my_rel"⟩
  · unfold Halt
    k_steps
    all_goals refine hret _ _ _ (by k_asm) (gsub_end kG' (by k_asm)) ⟨by walk_at "my_true", _, _, _, _, _, _, _, _, _, _, _, _, _, ⟨News.get (by k_asm) (by k_mem), News.get (by k_asm) (by k_mem), News.get (by k_asm) (by k_mem), News.get (by k_asm) (by k_mem), News.get (by k_asm) (by k_mem), News.get (by k_asm) (by k_mem), News.get (by k_asm) (by k_mem), News.get (by k_asm) (by k_mem)⟩, ⟨by assumption, by assumption, by assumption, by assumption, by walk_at "my_outs", by assumption, by assumption, by assumption⟩, by walk_at "my_len", by walk_at "my_len", by walk_at "my_rel"⟩
  · unfold Halt
    k_steps
    all_goals refine hret _ _ _ (by k_asm) (gsub_end kG' (by k_asm)) ⟨by walk_at "my_true", _, _, _, _, _, _, _, _, _, _, _, _, _, ⟨News.get (by k_asm) (by k_mem), News.get (by k_asm) (by k_mem), News.get (by k_asm) (by k_mem), News.get (by k_asm) (by k_mem), News.get (by k_asm) (by k_mem), News.get (by k_asm) (by k_mem), News.get (by k_asm) (by k_mem), News.get (by k_asm) (by k_mem)⟩, ⟨by assumption, by assumption, by assumption, by assumption, by walk_at "my_outs", by assumption, by assumption, by assumption⟩, by walk_at "my_len", by walk_at "my_len", by walk_at "my_rel"⟩
theorem heap_end {h₀ h1 h9 : Heap} {L x d dm mem wd : Addr} {ox od om oi oW oW' : Obj} {news : Led} {g : Obj → Led} (N : News h₀ L h1 ((x, ox) :: (d, od) :: news)) (hm : (dm, om) ∈ news) (hi : (mem, oi) ∈ news) (U : UpdF wd oW news g) (G : GSub h1 h9 [x, d, dm, mem, wd]) (l1 : ∀ p ∈ news, p.1 < d) (l2 : @LT.lt Nat _ d x) (km : h9.get? dm = some om) (ki : h9.get? mem = some oi) (e : h9.get? wd = some oW') : News h₀ L h9 (g oW') := by
  have same : ∀ p ∈ news, ∀ b o, p.1 = b → (b, o) ∈ news → p.2 = o := fun p hp b o q hb => by
    have h1 := (N p (.tail _ (.tail _ hp))).1
    rw [q, (N (b, o) (.tail _ (.tail _ hb))).1] at h1
    exact (Option.some.inj h1).symm
  have k : ∀ p ∈ news, p.1 ≠ wd → h9.get? p.1 = some p.2 ∧ p.1 ≠ L ∧ h₀.get? p.1 = none := fun p hp hn => by
    have h := N p (.tail _ (.tail _ hp))
    have hl : @LT.lt Nat _ p.1 d := l1 p hp
    refine ⟨?_, h.2⟩
    by_cases q1 : p.1 = dm
    · rw [same p hp dm om q1 hm, q1]; exact km
    · by_cases q2 : p.1 = mem
      · rw [same p hp mem oi q2 hi, q2]; exact ki
      · refine G _ _ h.1 ?_
        simp only [List.mem_cons, List.not_mem_nil, or_false, not_or]
        exact ⟨Nat.ne_of_lt (Nat.lt_trans hl l2), Nat.ne_of_lt hl, q1, q2, hn⟩
  obtain ⟨pre, post, rfl, hg, a, b⟩ := U.split
  rw [hg]
  intro p hp
  rcases List.mem_append.mp hp with q | q
  · exact k p (List.mem_append_left _ q) (a p q)
  · rcases List.mem_cons.mp q with rfl | q
    · exact ⟨e, (N (wd, oW) (.tail _ (.tail _ (List.mem_append_right _ (.head _))))).2⟩
    · exact k p (List.mem_append_right _ (.tail _ q)) (b p q)
theorem arg_low {W W' : Int → Int} {j : Int} (h : ∀ k, k ≠ j / 4 → W' k = W k) (k : Int) (hk : k < 144) (hj : 576 ≤ j := by decide) : W' k = W k := h k (by omega)
theorem updF_mem {d : Addr} {o : Obj} {l : Led} {g : Obj → Led} (U : UpdF d o l g) : (d, o) ∈ l := by
  obtain ⟨pre, post, rfl, _⟩ := U.split
  exact List.mem_append_right _ (.head _)
/-- a Heap is made upon the memory mem: two words of it change -/
theorem call_heap {w : World} {dp un : Nat} {gd : Option (List Code)} {cn : Str} {cs : Scope} {a : Addr} {ccd : Value} {cl : List (Str × Addr)} {outer : List Env} {A₀ : Around} {base h₀ : Heap} {L : Addr} {m : Str → Option Value} {s : Shared}
  {mean : ExcName → Option Value} {mg mb : Str → Option Value} {Q E : Value → Shared → Prop} {news : Led} {mem dm wd : Addr} {oW : Obj} {W : Int → Int} {k1 k2 x1 x2 n : Int} {t1 s1 t2 u1 u2 : Tok} {g : Obj → Led} (B : Below A₀ base outer h₀) (F : Fr h₀ L s.heap m) (X : (hd.heap_39 w.params).In h₀) (N : News h₀ L s.heap news) (T : Top hd.view_39 LO mean mg mb h₀) (hk : cs.kind = .function)
    (hdp : dp + 12 < recursionLimit) (hun : un + 8 * 12 < cLine)
    (h1 : x1 = 576) (h2 : x2 = 640) (hn : n = 912) (hm : (dm, dictOf [⟨k1, .str (Str.ofString "size") t1, .int n s1⟩, ⟨k2, .str (Str.ofString "words") t2, .ref wd⟩] 2) ∈ news) (hi : (mem, instObj 625 dm) ∈ news) (U : UpdF wd oW news g) (hW : Words w oW W) (lo : (wd == sysModules) = false)
    (n1 : Off dm mem) (n2 : Off dm wd) (n3 : Off mem wd)
    (ret : ∀ b h' tk' o' W', Fr h₀ L h' m → News h₀ L h' (g o') → Words w o' W' → (∀ k, k < 144 → W' k = W k) → Q (.ref b) { s with heap := h', toks := tk' }) :
    wpAny (model PySem.Challenge.rw_pb0380_01.row.prog w) (ktrTop dp un gd cn cs L a ccd cl outer) (call (.ref 370) [.ref mem, .int x1 u1, .int x2 u2]) Q E s := by
  subst h1
  subst h2
  subst hn
  walk_at "my_class"
  intro x d h1 F1 N1 l1 l2
  (try k_lt2 l2)
  have hw := updF_mem U
  have e1 : Lo dm d := l1 _ hm
  have e2 : Lo mem d := l1 _ hi
  have e3 : Lo wd d := l1 _ hw
  have e4 : Lo d x := l2
  have f1 : Lo dm x := Lo.tr e1 e4
  have f2 : Lo mem x := Lo.tr e2 e4
  have f3 : Lo wd x := Lo.tr e3 e4
  have N2 : News h₀ L h1 [(x, instObj 370 d), (d, dictOf [] 0), (dm, dictOf [⟨k1, .str (Str.ofString "size") t1, .int 912 s1⟩, ⟨k2, .str (Str.ofString "words") t2, .ref wd⟩] 2), (mem, instObj 625 dm), (wd, oW)] := fun p hp => N1 p (by
    simp only [List.mem_cons, List.not_mem_nil, or_false] at hp
    rcases hp with rfl | rfl | rfl | rfl | rfl
    · exact .head _
    · exact .tail _ (.head _)
    · exact .tail _ (.tail _ hm)
    · exact .tail _ (.tail _ hi)
    · exact .tail _ (.tail _ hw))
  (refine' code_defG ?k1 ?k2 ?k3 ?k4 ?k5 ?kA ?kF ?kK ?k6 ?k7 ?k8 ?k9q ?kB ?_ ?c2 ?c3 ?c4 ?c5; (case kA => exact rfl); (case kF => exact rfl); (case kK => assumption); (case k1 => k_asm); (case k2 => k_asm); (case k3 => k_asm); (case k4 => exact N2); (case k5 => k_asm); (case k6 => k_is); (case k7 => k_is); (case k8 => ktr_room); (case k9q => first | exact BindsTo.of_eq rfl | exact binds_K (by k_in) rfl (by k_is) rfl rfl rfl); (case c5 => decide); (case kB => exact locs rfl); (case c2 => exact rfl); (case c3 => exact rfl); (case c4 => exact rfl); k_whole)
  intro g' L' h' FG' F' N' B' X' T' kG'
  clear F1 N2 F N
  (try dsimp only)
  (try k_fold)
  k_steps
  exact ret x _ _ _ _ (by k_asm) (heap_end N1 hm hi U (gsub_end kG' (by k_asm)) l1 l2 (News.get (by k_asm) (by k_mem)) (News.get (by k_asm) (by k_mem)) (News.get (by k_asm) (by k_mem))) (by assumption) (fun k hk => Eq.trans (arg_low (by assumption) k hk) (arg_low (by assumption) k hk))
theorem reg_23_1 : True := by (k_with "call ref!" => ((with_reducible show wpAny _ _ (call (Value.ref 370) _) _ _ _); k_dflt (refine call_heap (by k_asm) (by k_asm) (by k_asm) (by k_asm) (by k_asm) (by first | exact rfl | assumption) (by ktr_room) (by ktr_units) (by rfl) (by rfl) (by rfl) (by k_mem) (by k_mem) (by k_updF) (by assumption) (by assumption) (Off.mk (by walk_at "my_neq")) (Off.mk (by walk_at "my_neq")) (Off.mk (by walk_at "my_neq")) ?_; intro b9q h9q tk9q o9q W9q F9q N9q hW9q hE9q; (try dsimp only at N9q); walk_at "my_z"))); trivial
theorem zero_low {W : Int → Int} (h : ∀ k, k < 144 → W k = (fun _ => (0 : Int)) k) : W 24 = 0 ∧ W 25 = 0 ∧ W 26 = 0 := ⟨h _ (by decide), h _ (by decide), h _ (by decide)⟩
theorem con_machine (w : World) (t1 t2 t3 t4 : Tok) : ConC w 20 792 [.int 64 t1, .int 256 t2, .int 10 t3, .int 512 t4] (MadeMachine w) := by
  unfold ConC
  intro dp un gd cn cs a ccd cl outer A₀ base h₀ L m s mean mg mb Q E news B F X N T hk hdp hun hret
  walk_at "my_class"
  intro x d h1 F1 N1 l1 l2
  (try k_lt2 l2)
  walk_at "my_init"
  intro g' L' h' FG' F' N' B' X' T' kG'
  clear F1
  (try dsimp only)
  (try k_fold)
  k_steps
  refine' hret _ _ _ d _ (by k_asm) (made_end N1 (gsub_end kG' (by k_asm)) l1 l2 (by k_asm) ?hs) l1 ⟨x, _, _, _, _, _, _, _, _, _, _, _, _, _, _, _, (PyData.keyHash w.params (Str.ofString "data_top"), PyData.keyHash w.params (Str.ofString "data_limit"), PyData.keyHash w.params (Str.ofString "stack_low"), PyData.keyHash w.params (Str.ofString "memory"), PyData.keyHash w.params (Str.ofString "heap"), PyData.keyHash w.params (Str.ofString "cpu"), PyData.keyHash w.params (Str.ofString "loaded"), PyData.keyHash w.params (Str.ofString "out"), PyData.keyHash w.params (Str.ofString "given"), PyData.keyHash w.params (Str.ofString "limit"), PyData.keyHash w.params (Str.ofString "steps")), (_, _, _, _, _, _, _, _, _, _, _), (_, _, _, _, _, _), _, _, _, _, _, (_, _, _, _, _, _, _, _, _), (_, _, _, _, _, _, _), _, rfl, rfl, ?f0, ?f1, ?f2, ?f3, ?f4, ?f5, ?f6, ?f7, ?f8, ?f9, ?f10, ?f11, ?f12⟩
  (case hs => walk_at "my_in")
  (case f0 => assumption)
  (case f1 => assumption)
  (case f2 => assumption)
  (case f3 => exact zero_low (by assumption))
  (case f4 => assumption)
  (case f5 => first | assumption | exact Lo.lt (by assumption))
  (case f6 => first | assumption | exact Lo.lt (by assumption))
  (case f7 => first | assumption | exact Lo.lt (by assumption))
  (case f8 => first | assumption | exact Lo.lt (by assumption))
  (case f9 => first | assumption | exact Lo.lt (by assumption))
  (case f10 => first | assumption | exact Lo.lt (by assumption))
  (case f11 => first | assumption | exact Lo.lt (by assumption))
  (case f12 => first | assumption | exact Lo.lt (by assumption))
theorem is_keep {h h' : Heap} {L a : Addr} {m : Str → Option Value} {its : Array Value} (F : Fr h L h' m) (e : h.IsList a its) : h'.IsList a its := by
  obtain ⟨o, a, b, c⟩ := e
  exact ⟨o, F.keep _ _ a, b, c⟩
theorem eq_strs {prog : Program} {w : World} {A : Around} {E Q : Value → Shared → Prop} {s : Shared} {a b : Addr} {oa ob : Obj} {xs : List Str} (ha : s.heap.get? a = some oa) (hb : s.heap.get? b = some ob) (hA : OutOk oa xs) (hB : OutOk ob xs) (hu : A.units < cLine) (h : Q (.bool false) s) :
    wpAny (model prog w) A (compareOp .NotEq (.ref a) (.ref b)) Q E s := by
  obtain ⟨vs, n, rfl, hv⟩ := hA
  obtain ⟨us, k, rfl, hu'⟩ := hB
  have key : ∀ (l : List Str) (vs us : List Value), StrsAre vs l → StrsAre us l → ∀ j (h1 : j < vs.length) (h2 : j < us.length) (A : Around) (s : Shared), SeqAt.EqAt A s vs[j] us[j] true := by
    intro l
    induction l with
    | nil => intro vs us h1 _ j hj; cases h1; cases hj
    | cons x l ih =>
      intro vs us h1 h2 j q1 q2 A s
      cases h1 with
      | cons _ t h1 =>
        cases h2 with
        | cons _ u h2 =>
          cases j with
          | zero => exact (by simpa using SeqAt.EqAt.str_str (A := A) (s := s) x t x u)
          | succ j => exact ih _ _ h1 h2 j (Nat.lt_of_succ_lt_succ q1) (Nat.lt_of_succ_lt_succ q2) A s
  have r := SeqAt.RcNeAt.lists (A := A) (s := s) (e := fun _ => true) (PySem.IsL.isList (n := n) ha) (PySem.IsL.isList (n := k) hb) (by rw [List.size_toArray, List.size_toArray, strs_len hv, strs_len hu']) hu (fun j h1 h2 => by simpa using key xs vs us hv hu' j (by simpa using h1) (by simpa using h2) _ s)
  refine cmp_ofNotEq (r prog w E Q ?_)
  have e : (!(List.range vs.toArray.size).all fun _ => true) = false := by simp
  rw [e]; exact h
theorem mach_of {h : Heap} {x dx mem cpu mo mg : Addr} {K T V v} (a : h.get? x = some (instObj 792 dx)) (b : h.get? dx = some (dictOf (machE K T V v mem cpu mo mg) 11)) : MachAt h x mem cpu mo mg := ⟨dx, K, T, (V, v), a, b⟩
theorem cpu_of {h : Heap} {x dx rg : Addr} {K T V v} (a : h.get? x = some (instObj 562 dx)) (b : h.get? dx = some (dictOf (cpuE K T V v rg) 9)) : CpuAt h x rg := ⟨dx, K, T, (V, v), a, b⟩
theorem host_of {h : Heap} {x dx ho hg : Addr} {K T V} (a : h.get? x = some (instObj 174 dx)) (b : h.get? dx = some (dictOf (hostE K T V ho hg) 14)) : HostAt h x ho hg := ⟨dx, K, T, V, a, b⟩
theorem held_of {h : Heap} {x dx cd : Addr} {K T V} (a : h.get? x = some (instObj 111 dx)) (b : h.get? dx = some (dictOf (heldE K T V cd) 4)) : HeldAt h x cd := ⟨dx, K, T, V, a, b⟩
/-- the ledger behind a call, but for the objects of adr -/
noncomputable def NewsX (h₀ : Heap) (L : Addr) (h' : Heap) (adr : List Addr) (news : Led) : Prop := ∀ p ∈ news, (p.1 ∉ adr → h'.get? p.1 = some p.2) ∧ p.1 ≠ L ∧ h₀.get? p.1 = none
theorem stepX {h₀ h' : Heap} {L d : Addr} {adr : List Addr} {o o' : Obj} {news : Led} {g : Obj → Led} (N : NewsX h₀ L h' (d :: adr) news) (U : UpdF d o news g) (e : h'.get? d = some o') : NewsX h₀ L h' adr (g o') := by
  obtain ⟨pre, post, rfl, hg, a, b⟩ := U.split
  rw [hg]
  intro p hp
  rcases List.mem_append.mp hp with q | q
  · have := N p (List.mem_append_left _ q)
    exact ⟨fun hn => this.1 (by simp [a p q, hn]), this.2⟩
  · rcases List.mem_cons.mp q with rfl | q
    · exact ⟨fun _ => e, (N (d, o) (List.mem_append_right _ (.head _))).2⟩
    · have := N p (List.mem_append_right _ (.tail _ q))
      exact ⟨fun hn => this.1 (by simp [b p q, hn]), this.2⟩
theorem use8 {w : World} {n : Nat} {f : Addr} {vs : List Value} {Pre : Heap → Prop} {Post : Heap → Value → Heap → Prop}
  {dp un : Nat} {gd : Option (List Code)} {cn : Str} {cs : Scope} {a : Addr} {ccd : Value} {cl : List (Str × Addr)} {outer : List Env} {A₀ : Around} {base h₀ : Heap} {L : Addr} {m : Str → Option Value} {s : Shared}
  {mean : ExcName → Option Value} {mg mb : Str → Option Value} {Q E : Value → Shared → Prop} {news : Led} {d1 d2 d3 d4 d5 d6 d7 d8 : Addr} {o1 o2 o3 o4 o5 o6 o7 o8 : Obj} {g1 : Obj → Led} {g2 : Obj → Obj → Led} {g3 : Obj → Obj → Obj → Led} {g4 : Obj → Obj → Obj → Obj → Led} {g5 : Obj → Obj → Obj → Obj → Obj → Led} {g6 : Obj → Obj → Obj → Obj → Obj → Obj → Led} {g7 : Obj → Obj → Obj → Obj → Obj → Obj → Obj → Led} {g8 : Obj → Obj → Obj → Obj → Obj → Obj → Obj → Obj → Led}
  (B : Below A₀ base outer h₀) (F : Fr h₀ L s.heap m) (X : (hd.heap_39 w.params).In h₀) (N : News h₀ L s.heap news) (T : Top hd.view_39 LO mean mg mb h₀) (hk : cs.kind = .function)
  (hdp : dp + n < recursionLimit) (hun : un + 8 * n < cLine) (C : Con w n f vs [(d1, o1), (d2, o2), (d3, o3), (d4, o4), (d5, o5), (d6, o6), (d7, o7), (d8, o8)] Pre Post) (hp : Pre s.heap) (U1 : UpdF d1 o1 news g1) (U2 : ∀ a1, UpdF d2 o2 (g1 a1) (g2 a1)) (U3 : ∀ a1 a2, UpdF d3 o3 (g2 a1 a2) (g3 a1 a2)) (U4 : ∀ a1 a2 a3, UpdF d4 o4 (g3 a1 a2 a3) (g4 a1 a2 a3)) (U5 : ∀ a1 a2 a3 a4, UpdF d5 o5 (g4 a1 a2 a3 a4) (g5 a1 a2 a3 a4)) (U6 : ∀ a1 a2 a3 a4 a5, UpdF d6 o6 (g5 a1 a2 a3 a4 a5) (g6 a1 a2 a3 a4 a5)) (U7 : ∀ a1 a2 a3 a4 a5 a6, UpdF d7 o7 (g6 a1 a2 a3 a4 a5 a6) (g7 a1 a2 a3 a4 a5 a6)) (U8 : ∀ a1 a2 a3 a4 a5 a6 a7, UpdF d8 o8 (g7 a1 a2 a3 a4 a5 a6 a7) (g8 a1 a2 a3 a4 a5 a6 a7))
  (ret : ∀ r h' tk', Fr h₀ L h' m → (∀ b1 b2 b3 b4 b5 b6 b7 b8, h'.get? d1 = some b1 → h'.get? d2 = some b2 → h'.get? d3 = some b3 → h'.get? d4 = some b4 → h'.get? d5 = some b5 → h'.get? d6 = some b6 → h'.get? d7 = some b7 → h'.get? d8 = some b8 → News h₀ L h' (g8 b1 b2 b3 b4 b5 b6 b7 b8)) → Post s.heap r h' → Q r { s with heap := h', toks := tk' }) :
  wpAny (model PySem.Challenge.rw_pb0380_01.row.prog w) (ktrTop dp un gd cn cs L a ccd cl outer) (call (.ref f) vs) Q E s := by
  have E1 : g1 o1 = news := (updF_same (U1)).trans rfl
  have E2 : g2 o1 o2 = news := (updF_same (U2 o1)).trans E1
  have E3 : g3 o1 o2 o3 = news := (updF_same (U3 o1 o2)).trans E2
  have E4 : g4 o1 o2 o3 o4 = news := (updF_same (U4 o1 o2 o3)).trans E3
  have E5 : g5 o1 o2 o3 o4 o5 = news := (updF_same (U5 o1 o2 o3 o4)).trans E4
  have E6 : g6 o1 o2 o3 o4 o5 o6 = news := (updF_same (U6 o1 o2 o3 o4 o5)).trans E5
  have E7 : g7 o1 o2 o3 o4 o5 o6 o7 = news := (updF_same (U7 o1 o2 o3 o4 o5 o6)).trans E6
  have E8 : g8 o1 o2 o3 o4 o5 o6 o7 o8 = news := (updF_same (U8 o1 o2 o3 o4 o5 o6 o7)).trans E7
  have m1 := updF_mem U1
  have m2 : (d2, o2) ∈ news := by have := updF_mem (U2 o1); rwa [E1] at this
  have m3 : (d3, o3) ∈ news := by have := updF_mem (U3 o1 o2); rwa [E2] at this
  have m4 : (d4, o4) ∈ news := by have := updF_mem (U4 o1 o2 o3); rwa [E3] at this
  have m5 : (d5, o5) ∈ news := by have := updF_mem (U5 o1 o2 o3 o4); rwa [E4] at this
  have m6 : (d6, o6) ∈ news := by have := updF_mem (U6 o1 o2 o3 o4 o5); rwa [E5] at this
  have m7 : (d7, o7) ∈ news := by have := updF_mem (U7 o1 o2 o3 o4 o5 o6); rwa [E6] at this
  have m8 : (d8, o8) ∈ news := by have := updF_mem (U8 o1 o2 o3 o4 o5 o6 o7); rwa [E7] at this
  refine C _ _ _ _ _ _ _ _ _ _ _ _ _ _ _ _ _ _ _ _ B F X (fun p hp => ?_) T hk hdp hun hp fun r h' tk' F' G P => ret r h' tk' F' (fun b1 b2 b3 b4 b5 b6 b7 b8 e1 e2 e3 e4 e5 e6 e7 e8 => ?_) P
  · simp only [List.mem_cons, List.not_mem_nil, or_false] at hp
    rcases hp with rfl | rfl | rfl | rfl | rfl | rfl | rfl | rfl
    · exact N _ m1
    · exact N _ m2
    · exact N _ m3
    · exact N _ m4
    · exact N _ m5
    · exact N _ m6
    · exact N _ m7
    · exact N _ m8
  · have X0 : NewsX h₀ L h' [d1, d2, d3, d4, d5, d6, d7, d8] news := fun p hp => ⟨fun hn => G _ _ (N p hp).1 hn, (N p hp).2⟩
    have X1 := stepX X0 (U1) e1
    have X2 := stepX X1 (U2 b1) e2
    have X3 := stepX X2 (U3 b1 b2) e3
    have X4 := stepX X3 (U4 b1 b2 b3) e4
    have X5 := stepX X4 (U5 b1 b2 b3 b4) e5
    have X6 := stepX X5 (U6 b1 b2 b3 b4 b5) e6
    have X7 := stepX X6 (U7 b1 b2 b3 b4 b5 b6) e7
    have X8 := stepX X7 (U8 b1 b2 b3 b4 b5 b6 b7) e8
    exact fun p hp => ⟨(X8 p hp).1 (by simp), (X8 p hp).2⟩
theorem range_inv8 {prog : Program} {w : World} {A : Around} {E : Value → Shared → Prop} {s : Shared} {env : Env} {h₀ : Heap} {x : Str} {body : List Stmt} {Q : Flow → Shared → Prop} {r : Addr} {a₀ b₀ : Int} {t₀ u₀ v₀ : Tok} {n : Nat} {m₀ : Str → Option Value} {news : Led} {d1 d2 d3 d4 d5 d6 d7 d8 : Addr} {o1 o2 o3 o4 o5 o6 o7 o8 : Obj} {g1 : Obj → Led} {g2 : Obj → Obj → Led} {g3 : Obj → Obj → Obj → Led} {g4 : Obj → Obj → Obj → Obj → Led} {g5 : Obj → Obj → Obj → Obj → Obj → Led} {g6 : Obj → Obj → Obj → Obj → Obj → Obj → Led} {g7 : Obj → Obj → Obj → Obj → Obj → Obj → Obj → Led} {g8 : Obj → Obj → Obj → Obj → Obj → Obj → Obj → Obj → Led}
    (I : Nat → Obj → Obj → Obj → Obj → Obj → Obj → Obj → Obj → Prop) (st : List Str) (F : Fr h₀ env.locals s.heap m₀) (N : News h₀ env.locals s.heap news) (h0 : I 0 o1 o2 o3 o4 o5 o6 o7 o8) (M1 : (d1, o1) ∈ news) (M2 : (d2, o2) ∈ news) (M3 : (d3, o3) ∈ news) (M4 : (d4, o4) ∈ news) (M5 : (d5, o5) ∈ news) (M6 : (d6, o6) ∈ news) (M7 : (d7, o7) ∈ news) (M8 : (d8, o8) ∈ news) (U1 : UpdF d1 o1 news g1) (U2 : ∀ a1, UpdF d2 o2 (g1 a1) (g2 a1)) (U3 : ∀ a1 a2, UpdF d3 o3 (g2 a1 a2) (g3 a1 a2)) (U4 : ∀ a1 a2 a3, UpdF d4 o4 (g3 a1 a2 a3) (g4 a1 a2 a3)) (U5 : ∀ a1 a2 a3 a4, UpdF d5 o5 (g4 a1 a2 a3 a4) (g5 a1 a2 a3 a4)) (U6 : ∀ a1 a2 a3 a4 a5, UpdF d6 o6 (g5 a1 a2 a3 a4 a5) (g6 a1 a2 a3 a4 a5)) (U7 : ∀ a1 a2 a3 a4 a5 a6, UpdF d7 o7 (g6 a1 a2 a3 a4 a5 a6) (g7 a1 a2 a3 a4 a5 a6)) (U8 : ∀ a1 a2 a3 a4 a5 a6 a7, UpdF d8 o8 (g7 a1 a2 a3 a4 a5 a6 a7) (g8 a1 a2 a3 a4 a5 a6 a7))
    (hr : IsRange s.heap r a₀ b₀ 1 t₀ u₀ v₀) (hh : A.handled = none) (hsmall : Builtin.Range.small a₀ b₀ 1 = true) (hn : Builtin.Range.rangeSize a₀ b₀ 1 = (n : Int))
    (turn : ∀ (i : Nat) (t : Tok) (b1 b2 b3 b4 b5 b6 b7 b8 : Obj) (u : Str → Option Value) (h : Heap) (tk : Nat) (own : Led), i < n → OwnOff own (news.map (·.1)) → I i b1 b2 b3 b4 b5 b6 b7 b8 → Fr h₀ env.locals h (fun y => if y = x then some (.int (a₀ + (i : Int)) t) else if st.contains y then u y else m₀ y) → News h₀ env.locals h (g8 b1 b2 b3 b4 b5 b6 b7 b8 ++ own) →
      wpAny (model prog w) A (execs body env) (InvPostN h₀ env.locals (fun m' nx => (∀ z, z ≠ x → st.contains z = false → m' z = m₀ z) ∧ ∃ c1 c2 c3 c4 c5 c6 c7 c8, nx = g8 c1 c2 c3 c4 c5 c6 c7 c8 ∧ I (i + 1) c1 c2 c3 c4 c5 c6 c7 c8) own (news.map (·.1)) { s with heap := h, toks := tk } Q) E { s with heap := h, toks := tk })
    (done : ∀ (b1 b2 b3 b4 b5 b6 b7 b8 : Obj) (u : Str → Option Value) (h : Heap) (tk : Nat), I n b1 b2 b3 b4 b5 b6 b7 b8 → Fr h₀ env.locals h (fun y => if y = x then u y else if st.contains y then u y else m₀ y) → News h₀ env.locals h (g8 b1 b2 b3 b4 b5 b6 b7 b8) → Q .next { s with heap := h, toks := tk }) :
    wpAny (model prog w) A (pyIter (.ref r)) (fun it s₂ => LoopAtV prog w A h₀ env x body Q E it s₂) E s := by
  have E1 : g1 o1 = news := (updF_same (U1)).trans rfl
  have E2 : g2 o1 o2 = news := (updF_same (U2 o1)).trans E1
  have E3 : g3 o1 o2 o3 = news := (updF_same (U3 o1 o2)).trans E2
  have E4 : g4 o1 o2 o3 o4 = news := (updF_same (U4 o1 o2 o3)).trans E3
  have E5 : g5 o1 o2 o3 o4 o5 = news := (updF_same (U5 o1 o2 o3 o4)).trans E4
  have E6 : g6 o1 o2 o3 o4 o5 o6 = news := (updF_same (U6 o1 o2 o3 o4 o5)).trans E5
  have E7 : g7 o1 o2 o3 o4 o5 o6 o7 = news := (updF_same (U7 o1 o2 o3 o4 o5 o6)).trans E6
  have E8 : g8 o1 o2 o3 o4 o5 o6 o7 o8 = news := (updF_same (U8 o1 o2 o3 o4 o5 o6 o7)).trans E7
  have A1 : ∀ (l : Led) (d : Addr) (o o' : Obj) (g : Obj → Led), UpdF d o l g → (g o').map (·.1) = l.map (·.1) := fun l d o o' g U => by
    obtain ⟨pre, post, rfl, hg, _⟩ := U.split
    rw [hg]; simp
  refine range_inv (σ := Obj × Obj × Obj × Obj × Obj × Obj × Obj × Obj) (fun a => g8 (a.1) (a.2.1) (a.2.2.1) (a.2.2.2.1) (a.2.2.2.2.1) (a.2.2.2.2.2.1) (a.2.2.2.2.2.2.1) (a.2.2.2.2.2.2.2)) (fun i a => I i (a.1) (a.2.1) (a.2.2.1) (a.2.2.2.1) (a.2.2.2.2.1) (a.2.2.2.2.2.1) (a.2.2.2.2.2.2.1) (a.2.2.2.2.2.2.2)) st (o1, o2, o3, o4, o5, o6, o7, o8) hr hh hsmall hn F N h0 E8 (fun a => ?_) (fun i t a u h tk own hi ho hI F' N' => ?_) (fun a u h tk hI F' N' => done _ _ _ _ _ _ _ _ u h tk hI F' N')
  · exact (A1 _ _ _ _ _ (U8 _ _ _ _ _ _ _)).trans ((A1 _ _ _ _ _ (U7 _ _ _ _ _ _)).trans ((A1 _ _ _ _ _ (U6 _ _ _ _ _)).trans ((A1 _ _ _ _ _ (U5 _ _ _ _)).trans ((A1 _ _ _ _ _ (U4 _ _ _)).trans ((A1 _ _ _ _ _ (U3 _ _)).trans ((A1 _ _ _ _ _ (U2 _)).trans ((A1 _ _ _ _ _ (U1)))))))))
  · refine wpAny_mono (turn i t _ _ _ _ _ _ _ _ u h tk own hi ho hI F' N') (fun fl s₂ q => ?_) fun _ _ e => e
    have up : InvEndN h₀ env.locals (fun m' nx => (∀ z, z ≠ x → st.contains z = false → m' z = m₀ z) ∧ ∃ c1 c2 c3 c4 c5 c6 c7 c8, nx = g8 c1 c2 c3 c4 c5 c6 c7 c8 ∧ I (i + 1) c1 c2 c3 c4 c5 c6 c7 c8) own (news.map (·.1)) { s with heap := h, toks := tk } s₂ →
        InvEndN h₀ env.locals (fun m' nx => (∀ z, z ≠ x → st.contains z = false → m' z = m₀ z) ∧ ∃ a : Obj × Obj × Obj × Obj × Obj × Obj × Obj × Obj, nx = g8 (a.1) (a.2.1) (a.2.2.1) (a.2.2.2.1) (a.2.2.2.2.1) (a.2.2.2.2.2.1) (a.2.2.2.2.2.2.1) (a.2.2.2.2.2.2.2) ∧ I (i + 1) (a.1) (a.2.1) (a.2.2.1) (a.2.2.2.1) (a.2.2.2.2.1) (a.2.2.2.2.2.1) (a.2.2.2.2.2.2.1) (a.2.2.2.2.2.2.2)) own (news.map (·.1)) { s with heap := h, toks := tk } s₂ := by
      rintro ⟨h', tk', m', news', nx, e', F', N', hn', ho', ha, hm, c1, c2, c3, c4, c5, c6, c7, c8, e1, e2⟩
      exact ⟨h', tk', m', news', nx, e', F', N', hn', ho', ha, hm, (c1, c2, c3, c4, c5, c6, c7, c8), e1, e2⟩
    cases fl with
    | ret v => exact q
    | brk => exact q
    | next => exact up q
    | cont => exact up q

theorem eq_given {prog : Program} {w : World} {A : Around} {E Q : Value → Shared → Prop} {s : Shared} {a b : Addr} {oa ob : Obj} {xs : List Int} (ha : s.heap.get? a = some oa) (hb : s.heap.get? b = some ob) (hA : GivenOk oa xs) (hB : GivenOk ob xs) (hu : A.units + 64 < cLine) (h : Q (.bool false) s) :
    wpAny (model prog w) A (compareOp .NotEq (.ref a) (.ref b)) Q E s := by
  obtain ⟨vs, n, rfl, hv⟩ := hA
  obtain ⟨us, k, rfl, hu'⟩ := hB
  refine ke_ne_ints (PySem.IsL.isList (n := n) ha) (PySem.IsL.isList (n := k) hb) hv hu' hu ?_
  rw [decide_eq_true rfl]; exact h
theorem rel_around {W : Int → Int} {C : Str → Int} (h : Rel W C) : ((List.range 8).map fun (j : Nat) => byteAt W (100 + (j : Int))) = [0, C (Str.ofString "Char"), 0, 0, 0, 0, C (Str.ofString "done"), 0] := by
  have k := fun (j : Nat) (hj : j < 8) => h.2 (100 + (j : Int)) (by omega)
  simp only [List.range_succ, List.range_zero, List.map_append, List.map_cons, List.map_nil, List.nil_append, List.cons_append]
  rw [k 0 (by decide), k 1 (by decide), k 2 (by decide), k 3 (by decide), k 4 (by decide), k 5 (by decide), k 6 (by decide), k 7 (by decide)]
  rfl
theorem ne_around {prog : Program} {w : World} {A : Around} {E Q : Value → Shared → Prop} {s : Shared} {a b : Addr} {W : Int → Int} {C : Str → Int} {ys : List Value} {n k : Nat} {t0 t1 t2 t3 t4 t5 t6 t7 : Tok} (ha : s.heap.get? a = some (listOf ys.toArray n))
    (hb : s.heap.get? b = some (listOf #[.int 0 t0, .int (C (Str.ofString "Char")) t1, .int 0 t2, .int 0 t3, .int 0 t4, .int 0 t5, .int (C (Str.ofString "done")) t6, .int 0 t7] k)) (hi : IntsAre ys ((List.range 8).map fun (j : Nat) => byteAt W (100 + (j : Int)))) (hR : Rel W C) (hu : A.units + 64 < cLine) (h : Q (.bool false) s) :
    wpAny (model prog w) A (compareOp .NotEq (.ref a) (.ref b)) Q E s := by
  rw [rel_around hR] at hi
  refine ke_ne_ints (ys := [.int 0 t0, .int (C (Str.ofString "Char")) t1, .int 0 t2, .int 0 t3, .int 0 t4, .int 0 t5, .int (C (Str.ofString "done")) t6, .int 0 t7]) (PySem.IsL.isList (n := n) ha) (PySem.IsL.isList (n := k) hb) hi (.cons _ _ (.cons _ _ (.cons _ _ (.cons _ _ (.cons _ _ (.cons _ _ (.cons _ _ (.cons _ _ .nil)))))))) hu ?_
  rw [decide_eq_true rfl]; exact h
theorem rel_zero {W : Int → Int} (h : W 24 = 0 ∧ W 25 = 0 ∧ W 26 = 0) : Rel W (fun _ => 0) := by
  refine ⟨h.1, fun a ha => ?_⟩
  have e : byteAt W a = 0 := by
    unfold byteAt
    rcases ha with e | e
    · rw [e, h.2.1]; simp
    · rw [e, h.2.2]; simp
  rw [e]; simp
theorem held_method0 {w : World} {A : Around} {E : Value → Shared → Prop} {s : Shared} {d : Addr} {o : Obj} {C : Str → Int} {pl : Sem Bool} {Q : Value × List Value → Shared → Prop} (hg : s.heap.get? d = some o) (hW : HeldOk w o C) (h : Q (.builtin "dict.get", [.ref d]) s) :
    wpAny (model PySem.Challenge.rw_pb0380_01.row.prog w) A (getMethod (.ref d) "get" pl) Q E s := by
  obtain ⟨kvs, hd, _⟩ := hW
  have hD : s.heap.DictOf (strKind PySem.Challenge.rw_pb0380_01.row.prog w) d kvs := Heap.dictOf_iff.mpr ⟨o, hg, hd⟩
  exact getMethod_builtin hD.typeIs PySem.F.plainAttrs_dict PySem.F.slot_dict_get PySem.F.type_dict_get hD.mapOf.noDict h
theorem held_get0 {w : World} {A : Around} {E : Value → Shared → Prop} {s : Shared} {d : Addr} {o : Obj} {C : Str → Int} {k : Str} {t t0 : Tok} {Q : Value → Shared → Prop} (hg : s.heap.get? d = some o) (hW : HeldOk w o C) (lo : (d == sysModules) = false) (h : ∀ t, Q (.int (C k) t) { s with toks := s.toks + 1 }) :
    wpAny (model PySem.Challenge.rw_pb0380_01.row.prog w) A (call (.builtin "dict.get") [.ref d, .str k t, .int 0 t0]) Q E s := by
  obtain ⟨kvs, hd, _, hv⟩ := hW
  have hD : s.heap.DictOf (strKind PySem.Challenge.rw_pb0380_01.row.prog w) d kvs := Heap.dictOf_iff.mpr ⟨o, hg, hd⟩
  refine call_meetsIn PySem.F.slot_dict_get hD.typeIs PySem.F.entry_dict_get (PySem.F.args_dict_get_3 _ _ _) (meets_dict_get_default _ d (strKind_is _ _ _ _) lo _) ⟨_, hD.mapOf, ?_⟩
  rcases hv k with ⟨e, e'⟩ | ⟨t, e⟩
  · rw [e]; have := h t0; rw [e'] at this; exact this
  · rw [e]; exact h t
theorem begin_regs {vs : List Value} {ns : List Int} {n : Nat} {x : Int} {t : Tok} (h : IntsAre (vs.set (Int.toNat 14) (.int x t)) (ns.set (Int.toNat 14) x)) (hl : ns.length = 16) (hx : x = 688) : RegOk (listOf (vs.set (Int.toNat 14) (.int x t)).toArray n) ((ns.set (Int.toNat 14) x).getD 0 0) := by
  refine ⟨_, _, n, rfl, h, by rw [List.length_set]; exact hl, ?_, rfl⟩
  have e : Int.toNat 14 = 14 := rfl
  rw [e, List.getD_eq_getElem?_getD, List.getElem?_set]
  simp [hl, hx]
theorem reg_24_2 : True := by (k_with "CompSrc!" => refine Halt.out ?_); trivial
theorem reg_24_3 : True := by (k_with "CompEnd!" => refine Halt.out ?_); trivial
theorem reg_24_4 : True := by (k_with "binaryOp Mod int int!" => (with_reducible refine mod_pos (by decide) ?_)); trivial
theorem reg_24_5 : True := by (k_with "getMethod ref!" => ((with_reducible show wpAny _ _ (getMethod (Value.ref _) (Str.ofString "get") _) _ _ _); refine held_method0 (by walk_at "my_base") (by assumption) ?_)); trivial
theorem reg_24_6 : True := by (k_with "call builtin:dict.get!" => ((with_reducible show wpAny _ _ (call _ [_, Value.str _ _, Value.int _ _]) _ _ _); (refine held_get0 (by walk_at "my_base") (by assumption) (by assumption) ?_); intro t9q; (try dsimp only))); trivial
theorem reg_24_7 : True := by (k_with "compareOp NotEq ref ref!" => (k_dflt (first | refine eq_strs (by walk_at "my_base") (by walk_at "my_base") (by assumption) (by assumption) (by ktr_units) ?_ | refine eq_given (by walk_at "my_base") (by walk_at "my_base") (by assumption) (by assumption) (by first | ktr_units | ke_room) ?_ | refine ne_around (by walk_at "my_base") (by walk_at "my_base") (by assumption) (by assumption) (by first | ktr_units | ke_room) ?_); (try dsimp only))); trivial
theorem host_put {K : Int × Int × Int × Int × Int × Int × Int × Int × Int × Int × Int × Int × Int × Int} {T : Tok × Tok × Tok × Tok × Tok × Tok × Tok × Tok × Tok × Tok × Tok × Tok × Tok × Tok} {V : Value × Value × Value × Value × Value × Value × Value × Value × Value × Value × Value × Value} {ho hg hg' : Addr} {i : Int} {k : Value} : (putL (Str.ofString "given") i k (.ref hg') (hostE K T V ho hg), putN (Str.ofString "given") (hostE K T V ho hg) 14) = (hostE K T V ho hg', 14) := rfl
theorem mach_put {K : Int × Int × Int × Int × Int × Int × Int × Int × Int × Int × Int} {T : Tok × Tok × Tok × Tok × Tok × Tok × Tok × Tok × Tok × Tok × Tok} {V : Value × Value × Value × Value × Value × Value} {v : Value} {mem cpu mo mg mg' : Addr} {i : Int} {k : Value} : (putL (Str.ofString "given") i k (.ref mg') (machE K T V v mem cpu mo mg), putN (Str.ofString "given") (machE K T V v mem cpu mo mg) 11) = (machE K T V v mem cpu mo mg', 11) := rfl
theorem reg_24_9 : True := by (k_with "setAttr ref!" => ((with_reducible show wpAny _ _ (setAttr (Value.ref _) (Str.ofString "given") _) _ _ _); k_dflt (refine' set_dict ?k1 ?k2 ?k3 ?k4 ?k5 ?k6 ?k7 ?k8 ?k9 ?k10 ?k11 ?k12 ?k13 ?_; (case k1 => k_asm); (case k2 => k_asm); (case k3 => k_asm); (case k4 => k_inst); (case k5 => exact rfl); (case k6 => k_is); (case k7 => k_is); (case k8 => k_is); (case k9 => k_is); (case k10 => k_get); (case k11 => first | exact host_put | exact mach_put); (case k12 => k_upd); (case k13 => exact Nat.le_of_ble_eq_true rfl); k_whole; intro h' F' N'; (try k_sweep)))); trivial
theorem nd_of {h₀ h : Heap} {L : Addr} {news : Led} (_N : News h₀ L h news) (h : @List.Nodup Nat (news.map (·.1))) : @List.Nodup Nat (news.map (·.1)) := h
theorem nd_cons {a : Nat} {l : List Nat} (h : ∀ x ∈ l, x < a) (ND : l.Nodup) : (a :: l).Nodup := List.nodup_cons.mpr ⟨fun q => Nat.lt_irrefl _ (h a q), ND⟩
theorem reg_24_51 : True := by (k_with "my_all_lt" => (repeat (first | exact List.forall_mem_nil _ | (refine List.forall_mem_cons.mpr ⟨by first | assumption | exact Lo.lt (by assumption) | omega, ?_⟩)))); trivial
theorem reg_24_52 : True := by (k_with "my_apart" => (unfold Apart; simp only [List.nodup_cons, List.mem_cons, List.not_mem_nil, or_false, not_or, not_false_eq_true, List.nodup_nil, and_true, ← ne_eq]; (repeat' (first | refine ⟨?_, ?_⟩ | walk_at "my_neq")))); trivial
theorem reg_24_53 : True := by (k_with "my_nd" => ((simp only [List.map_cons, List.map_nil, List.cons_append, List.nil_append, List.nodup_cons, List.mem_cons, List.not_mem_nil, or_false, not_or, not_false_eq_true, List.nodup_nil, and_true, ← ne_eq] at ND); (repeat (obtain ⟨nd9, ND⟩ := ND; (repeat (obtain ⟨ne9, nd9⟩ := nd9; replace ne9 := Off.mk ne9)); (try replace nd9 := Off.mk nd9))); (try replace ND := Off.mk ND))); trivial
theorem call_row {w : World} {dp un : Nat} {gd : Option (List Code)} {cn : Str} {cs : Scope} {a : Addr} {ccd : Value} {cl : List (Str × Addr)} {outer : List Env} {A₀ : Around} {base h₀ : Heap} {L : Addr} {m : Str → Option Value} {s : Shared}
  {mean : ExcName → Option Value} {mg mb : Str → Option Value} {Q E : Value → Shared → Prop} {news : Led} {sc : Addr} {vs : List Value} {ns : List Int} (B : Below A₀ base outer h₀) (F : Fr h₀ L s.heap m) (X : (hd.heap_39 w.params).In h₀) (N : News h₀ L s.heap news) (T : Top hd.view_39 LO mean mg mb h₀) (hk : cs.kind = .function)
    (hdp : dp + 3 < recursionLimit) (hun : un + 8 * 3 < cLine) (hI : IntsAre vs ns) (hz : ns.length ≤ 1000) (hp : s.heap.IsList sc vs.toArray)
    (ret : ∀ b o h' tk', Fr h₀ L h' m → News h₀ L h' ((b, o) :: news) → (∀ p ∈ news, Off p.1 b) → RowOk o → Q (.ref b) { s with heap := h', toks := tk' }) :
    wpAny (model PySem.Challenge.rw_pb0380_01.row.prog w) (ktrTop dp un gd cn cs L a ccd cl outer) (call (.ref 803) [.ref sc]) Q E s :=
  use0 B F X N T hk hdp hun (con_row w sc vs ns hI hz) hp fun r h' tk' F' N' _ P => by
    obtain ⟨b, o, rfl, hb, ho, hR⟩ := P
    exact ret b o h' tk' F' (afterNew F N' hb ho) (off_all N hb) hR
theorem call_machine {w : World} {dp un : Nat} {gd : Option (List Code)} {cn : Str} {cs : Scope} {a : Addr} {ccd : Value} {cl : List (Str × Addr)} {outer : List Env} {A₀ : Around} {base h₀ : Heap} {L : Addr} {m : Str → Option Value} {s : Shared}
  {mean : ExcName → Option Value} {mg mb : Str → Option Value} {Q E : Value → Shared → Prop} {news : Led} {t1 t2 t3 t4 : Tok} (B : Below A₀ base outer h₀) (F : Fr h₀ L s.heap m) (X : (hd.heap_39 w.params).In h₀) (N : News h₀ L s.heap news) (T : Top hd.view_39 LO mean mg mb h₀) (hk : cs.kind = .function)
    (hdp : dp + 20 < recursionLimit) (hun : un + 8 * 20 < cLine)
    (ret : ∀ x mem dm wd cpu dc rg mo mg0 D oW W vs ns n u2 s1 K T1 V k1 k2 t5 t6 K2 T2 V2 v2 h' tk', Fr h₀ L h' m → News h₀ L h' ((D, dictOf (machE K T1 V (.int 656 u2) mem cpu mo mg0) 11) :: (x, instObj 792 D) :: (dm, dictOf (memE k1 k2 t5 s1 t6 wd) 2) :: (mem, instObj 625 dm) :: (wd, oW) :: (dc, dictOf (cpuE K2 T2 V2 v2 rg) 9) :: (cpu, instObj 562 dc) :: (rg, listOf vs.toArray n) :: (mo, listOf #[] 0) :: news) → (∀ p ∈ news, p.1 < D) → (∀ p ∈ news, p.1 < x) → (∀ p ∈ news, p.1 < dm) → (∀ p ∈ news, p.1 < mem) → (∀ p ∈ news, p.1 < wd) → (∀ p ∈ news, p.1 < dc) → (∀ p ∈ news, p.1 < cpu) → (∀ p ∈ news, p.1 < rg) → (∀ p ∈ news, p.1 < mo) → Lo D x → Lo D dm → Lo D mem → Lo D wd → Lo D dc → Lo D cpu → Lo D rg → Lo D mo → Lo x dm → Lo x mem → Lo x wd → Lo x dc → Lo x cpu → Lo x rg → Lo x mo → Lo dm mem → Lo dm wd → Lo dm dc → Lo dm cpu → Lo dm rg → Lo dm mo → Lo mem wd → Lo mem dc → Lo mem cpu → Lo mem rg → Lo mem mo → Lo wd dc → Lo wd cpu → Lo wd rg → Lo wd mo → Lo dc cpu → Lo dc rg → Lo dc mo → Lo cpu rg → Lo cpu mo → Lo rg mo → IntsAre vs ns → ns.length = 16 → Words w oW W → (W 24 = 0 ∧ W 25 = 0 ∧ W 26 = 0) → (wd == sysModules) = false → Q (.ref x) { s with heap := h', toks := tk' }) :
    wpAny (model PySem.Challenge.rw_pb0380_01.row.prog w) (ktrTop dp un gd cn cs L a ccd cl outer) (call (.ref 792) [.int 64 t1, .int 256 t2, .int 10 t3, .int 512 t4]) Q E s :=
  useC B F X N T hk hdp hun (con_machine w t1 t2 t3 t4) fun r h' tk' D made F' N' l P => by
    obtain ⟨x, mem, dm, wd, cpu, dc, rg, mo, mg0, oW, W, vs, ns, n, u2, s1, K, T1, V, k1, k2, t5, t6, K2, T2, V2, v2, rfl, rfl, hI, hl, hW, hZ, lo, q1, q2, q3, q4, q5, q6, q7, q8⟩ := P
    have l1 := lt_all l q1
    have l2 := lt_all l1 q2
    have l3 := lt_all l2 q3
    have l4 := lt_all l3 q4
    have l5 := lt_all l4 q5
    have l6 := lt_all l5 q6
    have l7 := lt_all l6 q7
    have l8 := lt_all l7 q8
    exact ret x mem dm wd cpu dc rg mo mg0 D oW W vs ns n u2 s1 K T1 V k1 k2 t5 t6 K2 T2 V2 v2 h' tk' F' N' l l1 l2 l3 l4 l5 l6 l7 l8 q1 (Nat.lt_trans q1 q2) (Nat.lt_trans (Nat.lt_trans q1 q2) q3) (Nat.lt_trans (Nat.lt_trans (Nat.lt_trans q1 q2) q3) q4) (Nat.lt_trans (Nat.lt_trans (Nat.lt_trans (Nat.lt_trans q1 q2) q3) q4) q5) (Nat.lt_trans (Nat.lt_trans (Nat.lt_trans (Nat.lt_trans (Nat.lt_trans q1 q2) q3) q4) q5) q6) (Nat.lt_trans (Nat.lt_trans (Nat.lt_trans (Nat.lt_trans (Nat.lt_trans (Nat.lt_trans q1 q2) q3) q4) q5) q6) q7) (Nat.lt_trans (Nat.lt_trans (Nat.lt_trans (Nat.lt_trans (Nat.lt_trans (Nat.lt_trans (Nat.lt_trans q1 q2) q3) q4) q5) q6) q7) q8) q2 (Nat.lt_trans q2 q3) (Nat.lt_trans (Nat.lt_trans q2 q3) q4) (Nat.lt_trans (Nat.lt_trans (Nat.lt_trans q2 q3) q4) q5) (Nat.lt_trans (Nat.lt_trans (Nat.lt_trans (Nat.lt_trans q2 q3) q4) q5) q6) (Nat.lt_trans (Nat.lt_trans (Nat.lt_trans (Nat.lt_trans (Nat.lt_trans q2 q3) q4) q5) q6) q7) (Nat.lt_trans (Nat.lt_trans (Nat.lt_trans (Nat.lt_trans (Nat.lt_trans (Nat.lt_trans q2 q3) q4) q5) q6) q7) q8) q3 (Nat.lt_trans q3 q4) (Nat.lt_trans (Nat.lt_trans q3 q4) q5) (Nat.lt_trans (Nat.lt_trans (Nat.lt_trans q3 q4) q5) q6) (Nat.lt_trans (Nat.lt_trans (Nat.lt_trans (Nat.lt_trans q3 q4) q5) q6) q7) (Nat.lt_trans (Nat.lt_trans (Nat.lt_trans (Nat.lt_trans (Nat.lt_trans q3 q4) q5) q6) q7) q8) q4 (Nat.lt_trans q4 q5) (Nat.lt_trans (Nat.lt_trans q4 q5) q6) (Nat.lt_trans (Nat.lt_trans (Nat.lt_trans q4 q5) q6) q7) (Nat.lt_trans (Nat.lt_trans (Nat.lt_trans (Nat.lt_trans q4 q5) q6) q7) q8) q5 (Nat.lt_trans q5 q6) (Nat.lt_trans (Nat.lt_trans q5 q6) q7) (Nat.lt_trans (Nat.lt_trans (Nat.lt_trans q5 q6) q7) q8) q6 (Nat.lt_trans q6 q7) (Nat.lt_trans (Nat.lt_trans q6 q7) q8) q7 (Nat.lt_trans q7 q8) q8 hI hl hW hZ lo
theorem call_bare {w : World} {dp un : Nat} {gd : Option (List Code)} {cn : Str} {cs : Scope} {a : Addr} {ccd : Value} {cl : List (Str × Addr)} {outer : List Env} {A₀ : Around} {base h₀ : Heap} {L : Addr} {m : Str → Option Value} {s : Shared}
  {mean : ExcName → Option Value} {mg mb : Str → Option Value} {Q E : Value → Shared → Prop} {news : Led} {t1 : Tok} (B : Below A₀ base outer h₀) (F : Fr h₀ L s.heap m) (X : (hd.heap_39 w.params).In h₀) (N : News h₀ L s.heap news) (T : Top hd.view_39 LO mean mg mb h₀) (hk : cs.kind = .function)
    (hdp : dp + 6 < recursionLimit) (hun : un + 8 * 6 < cLine)
    (ret : ∀ x ho hg D K T1 V h' tk', Fr h₀ L h' m → News h₀ L h' ((D, dictOf (hostE K T1 V ho hg) 14) :: (x, instObj 174 D) :: (ho, listOf #[] 0) :: news) → (∀ p ∈ news, p.1 < D) → (∀ p ∈ news, p.1 < x) → (∀ p ∈ news, p.1 < ho) → Lo D x → Lo D ho → Lo x ho → True → Q (.ref x) { s with heap := h', toks := tk' }) :
    wpAny (model PySem.Challenge.rw_pb0380_01.row.prog w) (ktrTop dp un gd cn cs L a ccd cl outer) (call (.ref 174) [.int 10 t1]) Q E s :=
  useC B F X N T hk hdp hun (con_bare w t1) fun r h' tk' D made F' N' l P => by
    obtain ⟨x, ho, hg, K, T1, V, rfl, rfl, q1, q2⟩ := P
    have l1 := lt_all l q1
    have l2 := lt_all l1 q2
    exact ret x ho hg D K T1 V h' tk' F' N' l l1 l2 q1 (Nat.lt_trans q1 q2) q2 trivial
theorem call_frame {w : World} {dp un : Nat} {gd : Option (List Code)} {cn : Str} {cs : Scope} {a : Addr} {ccd : Value} {cl : List (Str × Addr)} {outer : List Env} {A₀ : Around} {base h₀ : Heap} {L : Addr} {m : Str → Option Value} {s : Shared}
  {mean : ExcName → Option Value} {mg mb : Str → Option Value} {Q E : Value → Shared → Prop} {news : Led} {t1 : Tok} (B : Below A₀ base outer h₀) (F : Fr h₀ L s.heap m) (X : (hd.heap_39 w.params).In h₀) (N : News h₀ L s.heap news) (T : Top hd.view_39 LO mean mg mb h₀) (hk : cs.kind = .function)
    (hdp : dp + 6 < recursionLimit) (hun : un + 8 * 6 < cLine)
    (ret : ∀ x cd D oC K T1 V h' tk', Fr h₀ L h' m → News h₀ L h' ((D, dictOf (heldE K T1 V cd) 4) :: (x, instObj 111 D) :: (cd, oC) :: news) → (∀ p ∈ news, p.1 < D) → (∀ p ∈ news, p.1 < x) → (∀ p ∈ news, p.1 < cd) → Lo D x → Lo D cd → Lo x cd → HeldOk w oC (fun _ => 0) → (cd == sysModules) = false → Q (.ref x) { s with heap := h', toks := tk' }) :
    wpAny (model PySem.Challenge.rw_pb0380_01.row.prog w) (ktrTop dp un gd cn cs L a ccd cl outer) (call (.ref 111) [.int 0 t1, .none]) Q E s :=
  useC B F X N T hk hdp hun (con_frame w t1) fun r h' tk' D made F' N' l P => by
    obtain ⟨x, cd, oC, K, T1, V, rfl, rfl, hC, lo, q1, q2⟩ := P
    have l1 := lt_all l q1
    have l2 := lt_all l1 q2
    exact ret x cd D oC K T1 V h' tk' F' N' l l1 l2 q1 (Nat.lt_trans q1 q2) q2 hC lo
theorem reg_25_1 : True := by (k_with "my_post" => ((repeat ((with_reducible rename (@LT.lt Nat _ _ _ ∧ _) => z9q); have h9q := Lo.mk (And.left z9q); (first | have y9q := Lo.mk (And.right z9q) | have y9q := And.right z9q); clear z9q)); (repeat ((with_reducible rename (@Ne _ _ _ ∧ _) => z9q); have h9q := Off.mk (And.left z9q); (first | have y9q := Off.mk (And.right z9q) | have y9q := And.right z9q); clear z9q)))); trivial
theorem ne_same {prog : Program} {w : World} {A : Around} {E Q : Value → Shared → Prop} {s : Shared} {a b : Int} {t u : Tok} (h : a = b) (hQ : Q (.bool false) s) : wpAny (model prog w) A (compareOp .NotEq (.int a t) (.int b u)) Q E s := ne_int (by rw [h, bne_self_eq_false]; exact hQ)
theorem reg_25_2 : True := by (k_with "compareOp NotEq int int!" => (refine ne_same (by with_reducible assumption) ?_)); trivial
theorem law_holds : PySem.Challenge.rw_pb0380_01.Holds := hd (by
  (k_with "call ref!" => first
    | ((with_reducible show wpAny _ _ (call (Value.ref 803) _) _ _ _); k_dflt (refine' call_row (by k_asm) (by k_asm) (by k_asm) (by k_asm) (by k_asm) (by first | exact rfl | assumption) (by ktr_room) (by ktr_units) (hI := ?hI) (hz := ?hz) (hp := ?hp) (ret := ?_); (case hp => exact is_keep (by k_asm) (by assumption)); (case hI => assumption); (case hz => omega); intro rw oR0 h9 tk9 F9 N9 off9q hR9; k_lt off9q; walk_at "my_z"))
    | ((with_reducible show wpAny _ _ (call (Value.ref 792) _) _ _ _); k_dflt (refine call_machine (by k_asm) (by k_asm) (by k_asm) (by k_asm) (by k_asm) (by first | exact rfl | assumption) (by ktr_room) (by ktr_units) (ret := ?_); intro xM mem dm wd cpu dc rg mo mg0 dM oW0 W0 vsG nsG nG uG sG KM TM VM kA1 kA2 tA1 tA2 KB TB VB vB h9 tk9 F9 N9 l0q l1q l2q l3q l4q l5q l6q l7q l8q _ _ _ _ _ _ _ _ _ _ _ _ _ _ _ _ _ _ _ _ _ _ _ _ _ _ _ _ _ _ _ _ _ _ _ _ hIG hlG hW0 hZ0 lo9; k_lt l0q; k_lt l1q; k_lt l2q; k_lt l3q; k_lt l4q; k_lt l5q; k_lt l6q; k_lt l7q; k_lt l8q; walk_at "my_z"))
    | ((with_reducible show wpAny _ _ (call (Value.ref 174) _) _ _ _); k_dflt (refine call_bare (by k_asm) (by k_asm) (by k_asm) (by k_asm) (by k_asm) (by first | exact rfl | assumption) (by ktr_room) (by ktr_units) (ret := ?_); intro xH ho hg0 dH KH TH VH h9 tk9 F9 N9 l0q l1q l2q _ _ _ _; k_lt l0q; k_lt l1q; k_lt l2q; walk_at "my_z"))
    | ((with_reducible show wpAny _ _ (call (Value.ref 111) _) _ _ _); k_dflt (refine call_frame (by k_asm) (by k_asm) (by k_asm) (by k_asm) (by k_asm) (by first | exact rfl | assumption) (by ktr_room) (by ktr_units) (ret := ?_); intro xF cd dF oC0 KF TF VF h9 tk9 F9 N9 l0q l1q l2q _ _ _ hC0 lo8; k_lt l0q; k_lt l1q; k_lt l2q; walk_at "my_z"))
    | ((with_reducible show wpAny _ _ (call (Value.ref 850) _) _ _ _); refine Halt.out ?_))
  k_go0
  all_goals (try k_fold)
  k_steps
  unfold Halt
  refine LCg.CompSrc.range (by rfl) (by k_asm) (by k_asm) (by assumption) (small_one (by omega) (by omega) (by omega) (by omega)) (by first | exact rangeSize_nat _ _ | rfl) (by rw [PySem.sizeLine_eq]; omega) ?_
  intro g'
  refine comp_row (fun i σ ys => RowOk σ ∧ ∃ ns, IntsAre ys ns ∧ ns.length = i) ⟨by assumption, [], .nil, rfl⟩ (by k_mem) (by k_updF) ?_ ?_
  · intro i9 σ9 ys9 v9 I9 oI9 C9 oC9 D9 m9 h9 tk9 E9 hi9 hv9 ⟨hR9, ns9, hI9, hl9⟩ hC9 hx9 F9 N9 off9 ne9
    (try dsimp only at N9 off9)
    (try simp only [LCg.Off3, and_true] at off9)
    (try k_fold)
    k_steps
    unfold Halt
    refine LCg.CompEnd.intro (by assumption) (by assumption) _ (by kcf_all) (by first | assumption | (simp only [LCg.Off3, and_true]; assumption)) trivial ⟨_, rfl, by assumption, ns9 ++ [_], IntsAre.snoc hI9 _ _, by rw [List.length_append, hl9]; rfl⟩
  · intro σ9 ys9 ⟨hR9, gs9, hG9, hy9⟩
    (try dsimp only)
    k_steps
    unfold Halt
    rename World => wW
    refine range_inv8 (d1 := rw) (d2 := wd) (d3 := rg) (d4 := mo) (d5 := ho) (d8 := cd) (o6 := LCg.lst ys9) (o7 := listOf ys9.toArray _) (fun i oR oW oG oM oH gH gM oC => ∃ W r0 xs gs C, RowOk oR ∧ Words wW oW W ∧ RegOk oG r0 ∧ OutOk oM xs ∧ OutOk oH xs ∧ GivenOk gH gs ∧ GivenOk gM gs ∧ HeldOk wW oC C ∧ Rel W C ∧ xs.length ≤ i ∧ gs.length ≤ 6) [Str.ofString "around"] (by k_asm) (by k_asm)
      ?h0 (by k_mem) (by k_mem) (by k_mem) (by k_mem) (by k_mem) (by k_mem) (by k_mem) (by k_mem) (U1 := by k_updF) (U2 := by intros; k_updF) (U3 := by intros; k_updF) (U4 := by intros; k_updF) (U5 := by intros; k_updF) (U6 := by intros; k_updF) (U7 := by intros; k_updF) (U8 := by intros; k_updF) (hr := by assumption) (hh := by rfl) (hsmall := by walk_at "my_range") (hn := by walk_at "my_range") (turn := ?turn) (done := ?done)
    case h0 => exact ⟨W0, _, [], gs9, fun _ => 0, by assumption, hW0, begin_regs (by assumption) hlG (by rfl), ⟨[], 0, rfl, .nil⟩, ⟨[], 0, rfl, .nil⟩, ⟨ys9, _, rfl, hG9⟩, ⟨ys9, _, rfl, hG9⟩, hC0, rel_zero hZ0, Nat.le_refl _, by omega⟩
    case done =>
      intro oR oW oG oM oH gH gM oC u9 h9 tk9 _ F9 N9
      walk_at "my_turn"
      k_steps
    case turn =>
      intro i9 t9 oR oW oG oM oH gH gM oC u9 h9 tk9 own9 hi9 off9 ⟨W, r0, xs, gs, C, hR, hW, hG, hM, hH, hgH, hgM, hC, hRel, hz, hy⟩ F9 N9
      walk_at "my_turn"
      k_steps
      unfold Halt
      refine use8 (by k_asm) (by k_asm) (by k_asm) (by k_asm) (by k_asm) (by first | exact rfl | assumption) (by ktr_room) (by ktr_units) (U1 := by k_updF) (U2 := by intros; k_updF) (U3 := by intros; k_updF) (U4 := by intros; k_updF) (U5 := by intros; k_updF) (U6 := by intros; k_updF) (U7 := by intros; k_updF) (U8 := by intros; k_updF) (C := con_deed _ rw xM mem cpu rg wd mo _ xH ho _ xF cd oR oW oG oM oH gH gM oC W r0 xs gs C hR hW hG hM hH hgH hgM hC (by omega) (by omega) hRel) (hp := ⟨⟨mach_of (by walk_at "my_base") (by walk_at "my_base"), cpu_of (by walk_at "my_base") (by walk_at "my_base"), by walk_at "my_mem"⟩, host_of (by walk_at "my_base") (by walk_at "my_base"), held_of (by walk_at "my_base") (by walk_at "my_base"), by walk_at "my_apart"⟩) (ret := ?_)
      rintro r8 h8 tk8 F8 N8 ⟨e8, oR', oW', oG', oM', oH', gH', gM', oC', W', r0', xs', gs', C', ⟨g1, g2, g3, g4, g5, g6, g7, g8⟩, ⟨f1, f2, f3, f4, f5, f6, f7, f8⟩, hz', hy', hRel'⟩
      subst e8
      replace N8 := N8 _ _ _ _ _ _ _ _ g1 g2 g3 g4 g5 g6 g7 g8
      (try dsimp only at N8)
      clear g1 g2 g3 g4 g5 g6 g7 g8 hR hW hG hM hH hgH hgM hC hRel
      walk_at "my_z"
      have h24 : W' (96 / 4) = C' (Str.ofString "Int") % 4294967296 := hRel'.1
      k_steps
      unfold Halt
      refine LCg.CompSrc.range (n := 8) (by rfl) (by k_asm) (by k_asm) (by assumption) (by rfl) (by rfl) (by rw [PySem.sizeLine_eq]; decide) ?_
      intro g8
      refine comp_row (rw := rw) (fun i σ ys => σ = oR' ∧ IntsAre ys ((List.range i).map fun (j : Nat) => byteAt W' (100 + (j : Int)))) ⟨rfl, .nil⟩ (by k_mem) (by k_updF) ?_ ?_
      · intro i7 σ7 ys7 v7 I7 oI7 C7 oC7 D7 m7 h7 tk7 E7 hi7 ⟨tv7, hv7⟩ ⟨hs7, hI7⟩ hC7 hx7 F7 N7 off7 ne7
        subst hv7
        subst hs7
        (try dsimp only at N7 off7)
        (try simp only [LCg.Off3, and_true] at off7)
        (try k_fold)
        k_steps
        unfold Halt
        refine LCg.CompEnd.intro (by assumption) (by assumption) _ (by kcf_all) (by first | assumption | (simp only [LCg.Off3, and_true]; assumption)) trivial ⟨_, rfl, rfl, ?_⟩
        rw [List.range_succ, List.map_append]
        exact IntsAre.snoc hI7 _ _
      · intro σ7 ys7 ⟨hs7, hI7⟩
        subst hs7
        (try dsimp only)
        k_steps
        refine' InvEndN.intro (by k_asm) (by k_asm) ⟨?st, σ7, oW', oG', oM', oH', gH', gM', oC', rfl, W', r0', xs', gs', C', f1, f2, f3, f4, f5, f6, f7, f8, hRel', Nat.le_trans hz' (Nat.succ_le_succ hz), Nat.le_trans hy' hy⟩ rfl ?mm ?oo
        (case st =>
          intro z h1 h2
          have h3 : z ≠ Str.ofString "around" := fun q => by rw [q] at h2; exact absurd h2 (by decide)
          first | (simp only [if_neg h1, if_neg h3, h2, Bool.false_eq_true, if_false]; done) | (simp only [if_neg h1, if_neg h3, h2, Bool.false_eq_true, if_false]; rfl) | walk_at "my_stored")
        (case mm => (try dsimp only); kcf_all)
        (case oo => walk_at "my_own"))
end Mine
theorem PySem.Challenge.cw_pb0380_01_holds : PySem.Challenge.rw_pb0380_01.Holds :=
  Mine.law_holds
