import PyProof.Rows.All
import Wide.All
import OpenK.AllK
import Wide.FinOn
import PyProof.WalkInts
import PySem.Challenge.RW_rh0107_01
set_option Elab.async false
set_option linter.unusedVariables false
set_option compiler.extract_closed false
namespace Mine
open PySem PySem.W PyProof.Rows
noncomputable def aWord : Str := "ab"
theorem aWord_self : aWord = aWord := rfl
name_quick tw12765059879194421524 for aWord by aWord_self
name_quick tw8075568018651887793 for aWord by aWord_self
name_quick tw12078258580191980202 for aWord by aWord_self
name_quick tw8595402780409941353 for aWord by aWord_self
name_quick tw3980028699286303546 for aWord by aWord_self
name_quick tw14979626087600564940 for aWord by aWord_self
name_quick tw16940766323923816557 for aWord by aWord_self
name_quick tw17494807178844415488 for aWord by aWord_self
name_quick tw2826521108475653482 for aWord by aWord_self
name_quick tw5733676910383322011 for aWord by aWord_self
name_quick tw12529129093788998157 for aWord by aWord_self
name_quick tw342737451032717037 for aWord by aWord_self
name_quick tw987845265491403629 for aWord by aWord_self
name_quick tw6537927635206691674 for aWord by aWord_self
name_quick tw6147171307777338356 for aWord by aWord_self
name_quick tw14823778421630974403 for aWord by aWord_self
name_quick tw1615719349143574890 for aWord by aWord_self
name_quick tw7057405563618977329 for aWord by aWord_self
name_quick tw17917122681197681205 for aWord by aWord_self
name_quick tw11559843095181728734 for aWord by aWord_self
name_quick tw12819034672901752415 for aWord by aWord_self
name_quick tw15034313371233782410 for aWord by aWord_self
name_quick tw11796506867022685745 for aWord by aWord_self
name_quick tw6291368078380397288 for aWord by aWord_self
name_quick tw17913803186225011329 for aWord by aWord_self
name_quick tw16487347958798203451 for aWord by aWord_self
name_quick tw6125931036764729998 for aWord by aWord_self
name_quick tw6009348429639677940 for aWord by aWord_self
name_quick tw8067100991250937581 for aWord by aWord_self
name_quick tw11891824955294080559 for aWord by aWord_self
name_quick tw8902219603052485911 for aWord by aWord_self
name_quick tw148260917463534702 for aWord by aWord_self
name_quick tw5323294361858181094 for aWord by aWord_self
name_quick tw4278798014809849964 for aWord by aWord_self
name_quick tw16049961110935095269 for aWord by aWord_self
name_quick tw6434265647005701932 for aWord by aWord_self
name_quick tw7483462131439158144 for aWord by aWord_self
name_quick tw9763268239775435451 for aWord by aWord_self
name_quick tw17280976486791472633 for aWord by aWord_self
name_quick tw13900631225919944168 for aWord by aWord_self
name_quick tw4302124980754421698 for aWord by aWord_self
name_quick tw10424941004445345732 for aWord by aWord_self
name_quick tw12647630874787467225 for aWord by aWord_self
name_quick tw18056578402003937789 for aWord by aWord_self
name_quick tw13034053981158551246 for aWord by aWord_self
name_quick tw8704618095886561957 for aWord by aWord_self
name_quick tw10885399304501877467 for aWord by aWord_self
name_quick tw6789855027759293466 for aWord by aWord_self
name_quick tw14323765505736481980 for aWord by aWord_self
name_quick tw3740020263889925745 for aWord by aWord_self
name_quick tw7469732015759309437 for aWord by aWord_self
name_quick tw6519424955469430661 for aWord by aWord_self
name_quick tw13471461260053382970 for aWord by aWord_self
name_quick tw4039474712603431140 for aWord by aWord_self
name_quick tw10030586065758793078 for aWord by aWord_self
name_quick tw4575980220486274672 for aWord by aWord_self
name_quick tw11543547407058413889 for aWord by aWord_self
name_quick tw3577408171920636059 for aWord by aWord_self
name_quick tw9537544019596298400 for aWord by aWord_self
name_quick tw11838138170533393997 for aWord by aWord_self
name_quick tw1620339239838986703 for aWord by aWord_self
name_quick tw15900120412870309639 for aWord by aWord_self
name_quick tw7802139600951554647 for aWord by aWord_self
name_quick tw15195428891847259777 for aWord by aWord_self
name_quick tw8385612375773290118 for aWord by aWord_self
name_quick tw6929956602132211858 for aWord by aWord_self
name_quick tw8047484207015712433 for aWord by aWord_self
name_quick tw14433975572909055671 for aWord by aWord_self
name_quick tw7365555872484859036 for aWord by aWord_self
name_quick tw1258717718454355964 for aWord by aWord_self
name_quick tw15880737140895825463 for aWord by aWord_self
name_quick tw16643706677886111943 for aWord by aWord_self
name_quick tw5345256250457102556 for aWord by aWord_self
name_quick tw1771862750571323454 for aWord by aWord_self
name_quick tw16644606511662114574 for aWord by aWord_self
name_quick tw1962928258387122110 for aWord by aWord_self
name_quick tw11161088081135249708 for aWord by aWord_self
name_quick tw16018607276475445134 for aWord by aWord_self
name_quick tw9305782018832362445 for aWord by aWord_self
name_quick tw6059929106960060952 for aWord by aWord_self
name_quick tw11186114360453789277 for aWord by aWord_self
name_quick tw11625766737575182897 for aWord by aWord_self
name_quick tw1333364371103165705 for aWord by aWord_self
name_quick tw4011157648589011858 for aWord by aWord_self
name_quick tw11462045893675790159 for aWord by aWord_self
name_quick tw17863021456227041891 for aWord by aWord_self
name_quick tw11130039905162102590 for aWord by aWord_self
name_quick tw347637069881736656 for aWord by aWord_self
name_quick tw1763209079605825380 for aWord by aWord_self
name_quick tw11333186260410459676 for aWord by aWord_self
name_quick tw12850107946570832962 for aWord by aWord_self
name_quick tw1291980286583624508 for aWord by aWord_self
name_quick tw2627984346626558326 for aWord by aWord_self
name_quick tw7745614565497352828 for aWord by aWord_self
name_quick tw4978915544186085027 for aWord by aWord_self
name_quick tw12371321757623732685 for aWord by aWord_self
name_quick tw10028428298569065181 for aWord by aWord_self
name_quick tw9265879793445154701 for aWord by aWord_self
name_quick tw900395245841561262 for aWord by aWord_self
name_quick tw6363645014702824404 for aWord by aWord_self
name_quick tw2948108419219029167 for aWord by aWord_self
name_quick tw5076957145309523181 for aWord by aWord_self
name_quick tw16417370028952169744 for aWord by aWord_self
name_quick tw3952652319720093869 for aWord by aWord_self
name_quick tw10314498396905981064 for aWord by aWord_self
name_quick tw12290603225136948437 for aWord by aWord_self
name_quick tw3152983702415266003 for aWord by aWord_self
name_quick tw14333388528381170442 for aWord by aWord_self
name_quick tw15823609455315575823 for aWord by aWord_self
name_quick tw16145008321745377990 for aWord by aWord_self
name_quick tw13615603153576403970 for aWord by aWord_self
name_quick tw2039238271031011813 for aWord by aWord_self
name_quick tw17899373020297197333 for aWord by aWord_self
name_quick tw2674190319118857908 for aWord by aWord_self
name_quick tw1377046205977697930 for aWord by aWord_self
name_quick tw13002492023102617099 for aWord by aWord_self
name_quick tw11452132507678324671 for aWord by aWord_self
name_quick tw5854881644878751223 for aWord by aWord_self
name_quick tw3355348695024010778 for aWord by aWord_self
name_quick tw6813294653679155843 for aWord by aWord_self
name_quick tw3856783459128436802 for aWord by aWord_self
name_quick tw8946543629884556368 for aWord by aWord_self
name_quick tw774047393022817027 for aWord by aWord_self
name_quick tw4405960384096086239 for aWord by aWord_self
name_quick tw3470799630455053000 for aWord by aWord_self
name_quick tw16966814322356759819 for aWord by aWord_self
name_quick tw16758808235637498351 for aWord by aWord_self
name_quick tw15562837088269578035 for aWord by aWord_self
name_quick tw10205541121877940668 for aWord by aWord_self
name_quick tw9931943479562821362 for aWord by aWord_self
name_quick tw1355338860687761863 for aWord by aWord_self
name_quick tw8540232549379673566 for aWord by aWord_self
name_quick tw14821650378409806113 for aWord by aWord_self
name_quick tw14112274594779413971 for aWord by aWord_self
name_quick tw16432479971616331241 for aWord by aWord_self
name_quick tw14907048974825807369 for aWord by aWord_self
name_quick tw13145125596335152023 for aWord by aWord_self
name_quick tw6123655918767846522 for aWord by aWord_self
name_quick tw1139862187096482527 for aWord by aWord_self
name_quick tw3386650904741475044 for aWord by aWord_self
name_quick tw2951486255847992690 for aWord by aWord_self
name_quick tw8555734327229750603 for aWord by aWord_self
name_quick tw4172830789200971933 for aWord by aWord_self
name_quick tw117213463901210413 for aWord by aWord_self
name_quick tw5111356299099525756 for aWord by aWord_self
name_quick tw17274371674624000324 for aWord by aWord_self
name_quick tw2718901123391026995 for aWord by aWord_self
name_quick tw1536587703002861866 for aWord by aWord_self
name_quick tw14766643958189025262 for aWord by aWord_self
name_quick tw13833065179229638619 for aWord by aWord_self
name_quick tw6607189417530752870 for aWord by aWord_self
name_quick tw17300597898927385350 for aWord by aWord_self
name_quick tw11707371222683016368 for aWord by aWord_self
name_quick tw1617757218408452269 for aWord by aWord_self
name_quick tw7098571738820278039 for aWord by aWord_self
name_quick tw13678640442995254988 for aWord by aWord_self
name_quick tw13809362725867891129 for aWord by aWord_self
name_quick tw1370275717833778536 for aWord by aWord_self
name_quick tw16942194440817826258 for aWord by aWord_self
name_quick tw15490439104401381959 for aWord by aWord_self
name_quick tw6662432510661729299 for aWord by aWord_self
name_quick tw18410474027866654770 for aWord by aWord_self
name_quick tw6832808476680081064 for aWord by aWord_self
name_quick tw4748654258956052638 for aWord by aWord_self
name_quick tw10042830170769951172 for aWord by aWord_self
name_quick tw8999186272805695465 for aWord by aWord_self
name_quick tw4800724452203346748 for aWord by aWord_self
name_quick tw7081425507203772304 for aWord by aWord_self
name_quick tw3362959441861295915 for aWord by aWord_self
name_quick tw15894407043143930727 for aWord by aWord_self
name_quick tw13912434898499826684 for aWord by aWord_self
name_quick tw6245536207120538393 for aWord by aWord_self
name_quick tw12635813782599140982 for aWord by aWord_self
name_quick tw16180483070735683940 for aWord by aWord_self
name_quick tw9676229304581654039 for aWord by aWord_self
name_quick tw7581352650102555174 for aWord by aWord_self
name_quick tw8989982439271903415 for aWord by aWord_self
name_quick tw5697894365363955025 for aWord by aWord_self
name_quick tw12821735335276811757 for aWord by aWord_self
name_quick tw9396933662098498411 for aWord by aWord_self
name_quick tw6909570525239066004 for aWord by aWord_self
name_quick tw16413963553889246368 for aWord by aWord_self
name_quick tw18188234029961486008 for aWord by aWord_self
name_quick tw2334299552400917057 for aWord by aWord_self
name_quick tw15263041282635125899 for aWord by aWord_self
name_quick tw8459811325457737761 for aWord by aWord_self
name_quick tw17888162413812561239 for aWord by aWord_self
name_quick tw17532440430192770315 for aWord by aWord_self
name_quick tw14185684948912167051 for aWord by aWord_self
name_quick tw5310036984924271277 for aWord by aWord_self
name_quick tw6993175162768986339 for aWord by aWord_self
name_quick tw8376441433122354887 for aWord by aWord_self
name_quick tw17943406268862710625 for aWord by aWord_self
name_quick tw14223099787259518943 for aWord by aWord_self
name_quick tw5732905514179830355 for aWord by aWord_self
name_quick tw387338674003428930 for aWord by aWord_self
name_quick tw608726401823008365 for aWord by aWord_self
name_quick tw10073347824450446311 for aWord by aWord_self
name_quick tw16865151637890581275 for aWord by aWord_self
name_quick tw15468230090516036684 for aWord by aWord_self
name_quick tw1107438419126420414 for aWord by aWord_self
name_quick tw5268983451555188008 for aWord by aWord_self
name_quick tw6380782515089751550 for aWord by aWord_self
name_quick tw16176465441171805009 for aWord by aWord_self
name_quick tw5853609219237828028 for aWord by aWord_self
name_quick tw9136488742655976645 for aWord by aWord_self
name_quick tw6179359751918216688 for aWord by aWord_self
name_quick tw4936483359421988267 for aWord by aWord_self
name_quick tw8649964590619651473 for aWord by aWord_self
name_quick tw11518781747449614426 for aWord by aWord_self
name_quick tw13581749221687468397 for aWord by aWord_self
name_quick tw13640514254501968386 for aWord by aWord_self
name_quick tw6426273055680023932 for aWord by aWord_self
name_quick tw17100903815162463580 for aWord by aWord_self
name_quick tw13036272033356848781 for aWord by aWord_self
name_quick tw14210447440969649564 for aWord by aWord_self
name_quick tw16180582048198870337 for aWord by aWord_self
name_quick tw1829445100760108279 for aWord by aWord_self
name_quick tw12945451867199242903 for aWord by aWord_self
name_quick tw17532718790514356516 for aWord by aWord_self
name_quick tw325292655437039998 for aWord by aWord_self
name_quick tw17497748084772794779 for aWord by aWord_self
name_quick tw8881496252177385917 for aWord by aWord_self
name_quick tw16127339712140622707 for aWord by aWord_self
name_quick tw6952355047532471503 for aWord by aWord_self
name_quick tw17111948838632640456 for aWord by aWord_self
name_quick tw10819683100428557426 for aWord by aWord_self
name_quick tw8987815912523675519 for aWord by aWord_self
name_quick tw12488000419048109807 for aWord by aWord_self
name_quick tw3267979357774110234 for aWord by aWord_self
name_quick tw14023627001141898710 for aWord by aWord_self
name_quick tw8603108125212654177 for aWord by aWord_self
name_quick tw7987952416473584550 for aWord by aWord_self
name_quick tw10964334890339321822 for aWord by aWord_self
name_quick tw6380047634161181297 for aWord by aWord_self
name_quick tw14537914154153760125 for aWord by aWord_self
name_quick tw8753696776887207221 for aWord by aWord_self
name_quick tw6834602518627153040 for aWord by aWord_self
name_quick tw11317593695737139937 for aWord by aWord_self
name_quick tw7232422423428716515 for aWord by aWord_self
name_quick tw6792406925840432001 for aWord by aWord_self
name_quick tw11863081143760314161 for aWord by aWord_self
name_quick tw14097648870716263351 for aWord by aWord_self
name_quick tw5450187663091677483 for aWord by aWord_self
name_quick tw3094477031063562474 for aWord by aWord_self
name_quick tw4904739604578439355 for aWord by aWord_self
name_quick tw5149714755402479525 for aWord by aWord_self
name_quick tw16326889199254633757 for aWord by aWord_self
name_quick tw13252181687094117063 for aWord by aWord_self
name_quick tw10138199336372458610 for aWord by aWord_self
name_quick tw13180171748994924942 for aWord by aWord_self
name_quick tw1706496860858754268 for aWord by aWord_self
name_quick tw17172517015917474193 for aWord by aWord_self
name_quick tw13580328829973926956 for aWord by aWord_self
name_quick tw17101871299007795629 for aWord by aWord_self
name_quick tw16979880578912567463 for aWord by aWord_self
name_quick tw7892128664451923741 for aWord by aWord_self
name_quick tw1419416864934026935 for aWord by aWord_self
name_quick tw5770868932273138760 for aWord by aWord_self
name_quick tw13725850141900786883 for aWord by aWord_self
name_quick tw12456492676567594705 for aWord by aWord_self
name_quick tw196644378293983589 for aWord by aWord_self
name_quick tw8430678208038309684 for aWord by aWord_self
name_quick tw17344680358763864322 for aWord by aWord_self
name_quick tw10181792811725400092 for aWord by aWord_self
name_quick tw17993156020533580102 for aWord by aWord_self
name_quick tw16292439048969090190 for aWord by aWord_self
name_quick tw2862820112641550484 for aWord by aWord_self
name_quick tw5357591511691535388 for aWord by aWord_self
name_quick tw1735497430108182060 for aWord by aWord_self
name_quick tw10007627690174824804 for aWord by aWord_self
name_quick tw11729385059970357855 for aWord by aWord_self
name_quick tw392140993173905013 for aWord by aWord_self
name_quick tw7275051467321613617 for aWord by aWord_self
name_quick tw2759451637364818457 for aWord by aWord_self
name_quick tw15808557625122938864 for aWord by aWord_self
name_quick tw18350330562280901221 for aWord by aWord_self
name_quick tw14909702598903578594 for aWord by aWord_self
name_quick tw8732485361984058174 for aWord by aWord_self
name_quick tw3695515675974049574 for aWord by aWord_self
name_quick tw18011898689540126615 for aWord by aWord_self
name_quick tw16350708796919097252 for aWord by aWord_self
name_quick tw4407734736301137906 for aWord by aWord_self
name_quick tw13721567128424951087 for aWord by aWord_self
name_quick tw7229665172594901996 for aWord by aWord_self
name_quick tw2611137233208623240 for aWord by aWord_self
name_quick tw16947794391021106201 for aWord by aWord_self
name_quick tw7496433998918960881 for aWord by aWord_self
name_quick tw39160002569200845 for aWord by aWord_self
name_quick tw5882768191206486792 for aWord by aWord_self
name_quick tw7344376507651311505 for aWord by aWord_self
name_quick tw4525517667737911620 for aWord by aWord_self
name_quick tw6214688769961185500 for aWord by aWord_self
name_quick tw6012508502120743258 for aWord by aWord_self
name_quick tw8708707556590381134 for aWord by aWord_self
name_quick tw7094674258960923220 for aWord by aWord_self
name_quick tw4921902886906138986 for aWord by aWord_self
name_quick tw43969757491396457 for aWord by aWord_self
name_quick tw17975652961387846372 for aWord by aWord_self
name_quick tw11790162104776037713 for aWord by aWord_self
name_quick tw16437185098154296904 for aWord by aWord_self
name_quick tw3953757239420563355 for aWord by aWord_self
name_quick tw13160144027095335755 for aWord by aWord_self
name_quick tw14973007898608030118 for aWord by aWord_self
name_quick tw5923252988546675246 for aWord by aWord_self
name_quick tw8119918657739134586 for aWord by aWord_self
name_quick tw17001327861769816259 for aWord by aWord_self
name_quick tw878741703135273975 for aWord by aWord_self
name_quick tw17057272898397164401 for aWord by aWord_self
name_quick tw9285146279643344392 for aWord by aWord_self
name_quick tw18126140380344562322 for aWord by aWord_self
name_quick tw3142773779024712118 for aWord by aWord_self
name_quick tw1102190903223815498 for aWord by aWord_self
name_quick tw2719445374943340272 for aWord by aWord_self
name_quick tw13317431791736044220 for aWord by aWord_self
name_quick tw9467589175468403638 for aWord by aWord_self
name_quick tw1537898542681612871 for aWord by aWord_self
name_quick tw18263319221461684349 for aWord by aWord_self
name_quick tw7299303143086499733 for aWord by aWord_self
name_quick tw1156252341971683116 for aWord by aWord_self
name_quick tw10029231156530900338 for aWord by aWord_self
name_quick tw11964429278604863157 for aWord by aWord_self
name_quick tw5978237884098788730 for aWord by aWord_self
name_quick tw5396446701170858492 for aWord by aWord_self
name_quick tw8032284361305108907 for aWord by aWord_self
name_quick tw16817318245366136608 for aWord by aWord_self
name_quick tw10650810973499830745 for aWord by aWord_self
name_quick tw9594665118957945026 for aWord by aWord_self
name_quick tw12268644228514654432 for aWord by aWord_self
name_quick tw1041845030581493396 for aWord by aWord_self
name_quick tw13642483538084851733 for aWord by aWord_self
name_quick tw4319705520415482375 for aWord by aWord_self
name_quick tw7618406622816332465 for aWord by aWord_self
name_quick tw13789449189825218787 for aWord by aWord_self
name_quick tw6817277305950994716 for aWord by aWord_self
name_quick tw7670514497116975361 for aWord by aWord_self
name_quick tw16241802466949684156 for aWord by aWord_self
name_quick tw12095823642532355627 for aWord by aWord_self
name_quick tw11957962974430299695 for aWord by aWord_self
name_quick tw18220123701641295943 for aWord by aWord_self
name_quick tw4299136966843209011 for aWord by aWord_self
name_quick tw2370425770031549630 for aWord by aWord_self
name_quick tw17015423121036801654 for aWord by aWord_self
name_quick tw12809422525583811893 for aWord by aWord_self
name_quick tw17853915177807527196 for aWord by aWord_self
name_quick tw13505292571300825877 for aWord by aWord_self
name_quick tw17071476683966804577 for aWord by aWord_self
name_quick tw10308316962582663543 for aWord by aWord_self
name_quick tw7323676302269181137 for aWord by aWord_self
name_quick tw12114495157272644582 for aWord by aWord_self
name_quick tw12825359941727978080 for aWord by aWord_self
name_quick tw11994158751524154303 for aWord by aWord_self
name_quick tw8727135674562949291 for aWord by aWord_self
name_quick tw12392613427281201732 for aWord by aWord_self
name_quick tw9800571698397750058 for aWord by aWord_self
name_quick tw5248340912204065574 for aWord by aWord_self
name_quick tw11788150170368784547 for aWord by aWord_self
name_quick tw7074795694173733578 for aWord by aWord_self
name_quick tw17954736447514056666 for aWord by aWord_self
name_quick tw912392155897948271 for aWord by aWord_self
name_quick tw16916688483869632129 for aWord by aWord_self
name_quick tw6148621092414575339 for aWord by aWord_self
name_quick tw12726346659333912481 for aWord by aWord_self
name_quick tw17394056326795013819 for aWord by aWord_self
name_quick tw15742981410569661332 for aWord by aWord_self
name_quick tw14778209649434054790 for aWord by aWord_self
name_quick tw8180830640274347804 for aWord by aWord_self
name_quick tw17024950926791866790 for aWord by aWord_self
name_quick tw14311459727803291754 for aWord by aWord_self
name_quick tw1092655722715705105 for aWord by aWord_self
name_quick tw1414301608579184545 for aWord by aWord_self
name_quick tw921073385446354868 for aWord by aWord_self
name_quick tw11740888236361828772 for aWord by aWord_self
name_quick tw13314330512976039754 for aWord by aWord_self
name_quick tw13241461904039861399 for aWord by aWord_self
name_quick tw10058976618658966374 for aWord by aWord_self
name_quick tw15560853006256673968 for aWord by aWord_self
name_quick tw6144853644547557980 for aWord by aWord_self
name_quick tw3797612339304411714 for aWord by aWord_self
name_quick tw4681523508651956083 for aWord by aWord_self
name_quick tw10887116778572429059 for aWord by aWord_self
name_quick tw10833955939284561965 for aWord by aWord_self
name_quick tw2902314222560053993 for aWord by aWord_self
name_quick tw8860024209350480642 for aWord by aWord_self
name_quick tw14714103240675001986 for aWord by aWord_self
name_quick tw6714822604882049554 for aWord by aWord_self
name_quick tw2736616831223182526 for aWord by aWord_self
name_quick tw16593013826814733010 for aWord by aWord_self
name_quick tw3560238982266916124 for aWord by aWord_self
name_quick tw8017206721242287953 for aWord by aWord_self
name_quick tw12233582284571471492 for aWord by aWord_self
name_quick tw7397068168572129948 for aWord by aWord_self
name_quick tw7392212959928792091 for aWord by aWord_self
name_quick tw10528696920762540405 for aWord by aWord_self
name_quick tw389472881494512206 for aWord by aWord_self
name_quick tw15207642765257501584 for aWord by aWord_self
name_quick tw8579058602437062094 for aWord by aWord_self
name_quick tw7619357645376055252 for aWord by aWord_self
name_quick tw12835720964997663042 for aWord by aWord_self
name_quick tw16869277618539721502 for aWord by aWord_self
name_quick tw11277716924127702174 for aWord by aWord_self
name_quick tw1320183511955256522 for aWord by aWord_self
name_quick tw3764465048917985505 for aWord by aWord_self
name_quick tw4091194055036891139 for aWord by aWord_self
name_quick tw11495947367809530248 for aWord by aWord_self
name_quick tw17325535178939296128 for aWord by aWord_self
name_quick tw7581816359482902497 for aWord by aWord_self
name_quick tw183835017167291270 for aWord by aWord_self
name_quick tw4679858250743294509 for aWord by aWord_self
name_quick tw2968979199505139716 for aWord by aWord_self
name_quick tw16874561944515371726 for aWord by aWord_self
name_quick tw4552823106982906706 for aWord by aWord_self
name_quick tw12393455550290869266 for aWord by aWord_self
name_quick tw15202239659555905331 for aWord by aWord_self
name_quick tw14896874001708588922 for aWord by aWord_self
name_quick tw6004533443673955352 for aWord by aWord_self
name_quick tw7198390536060210744 for aWord by aWord_self
name_quick tw11767421526060770920 for aWord by aWord_self
name_quick tw7276740287692124622 for aWord by aWord_self
name_quick tw9082586571710850966 for aWord by aWord_self
name_quick tw10045867985992453528 for aWord by aWord_self
name_quick tw15007238320947547705 for aWord by aWord_self
name_quick tw2378363196638174374 for aWord by aWord_self
name_quick tw17537794083376710389 for aWord by aWord_self
name_quick tw5529568453561195837 for aWord by aWord_self
name_quick tw11013792430000457035 for aWord by aWord_self
name_quick tw11420187438672877268 for aWord by aWord_self
name_quick tw2315820567201803617 for aWord by aWord_self
name_quick tw15919542637913265678 for aWord by aWord_self
name_quick tw2422670821966735624 for aWord by aWord_self
name_quick tw16349216596472256690 for aWord by aWord_self
name_quick tw9501820088010722379 for aWord by aWord_self
name_quick tw17552769576498331613 for aWord by aWord_self
name_quick tw12329403913580668285 for aWord by aWord_self
name_quick tw17045043414572947948 for aWord by aWord_self
name_quick tw17434858337260393937 for aWord by aWord_self
name_quick tw12635297910168745909 for aWord by aWord_self
name_quick tw18273839248471157720 for aWord by aWord_self
name_quick tw17988542015724977305 for aWord by aWord_self
name_quick tw9951705424602377420 for aWord by aWord_self
name_quick tw4275521005467322725 for aWord by aWord_self
name_quick tw9794667896261083176 for aWord by aWord_self
name_quick tw8620020772036689432 for aWord by aWord_self
name_quick tw9407582987413476825 for aWord by aWord_self
name_quick tw4224760802259116069 for aWord by aWord_self
name_quick tw18340240734955500558 for aWord by aWord_self
name_quick tw10010936943081839664 for aWord by aWord_self
name_quick tw10948738476641704880 for aWord by aWord_self
name_quick tw14884601019740666482 for aWord by aWord_self
name_quick tw1218959903707654005 for aWord by aWord_self
name_quick tw15066959818950650227 for aWord by aWord_self
name_quick tw2478078296215019888 for aWord by aWord_self
name_quick tw15542503528162795033 for aWord by aWord_self
name_quick tw7286323032743288035 for aWord by aWord_self
name_quick tw3820604794100220378 for aWord by aWord_self
name_quick tw10996506086634736982 for aWord by aWord_self
name_quick tw9011979029575296479 for aWord by aWord_self
name_quick tw9219426015542480343 for aWord by aWord_self
name_quick tw2569364866550412066 for aWord by aWord_self
name_quick tw18163708392712065173 for aWord by aWord_self
name_quick tw725871291056497461 for aWord by aWord_self
name_quick tw2905824091091238844 for aWord by aWord_self
name_quick tw4879560196417449868 for aWord by aWord_self
name_quick tw11892598404827812706 for aWord by aWord_self
name_quick tw14285029430470858289 for aWord by aWord_self
name_quick tw2692131464491369481 for aWord by aWord_self
name_quick tw682011567655089306 for aWord by aWord_self
name_quick tw13141144453892091621 for aWord by aWord_self
name_quick tw6589095468515690095 for aWord by aWord_self
name_quick tw9300948228871686676 for aWord by aWord_self
name_quick tw15542691292777871779 for aWord by aWord_self
name_quick tw15315713394281565010 for aWord by aWord_self
name_quick tw8800560270773162519 for aWord by aWord_self
name_quick tw3209381107111851631 for aWord by aWord_self
name_quick tw8424611434330503625 for aWord by aWord_self
name_quick tw1210750091971509897 for aWord by aWord_self
name_quick tw16189536214700107852 for aWord by aWord_self
name_quick tw16752143609539240740 for aWord by aWord_self
name_quick tw8796240567053077481 for aWord by aWord_self
name_quick tw13559156169165276386 for aWord by aWord_self
name_quick tw17846936440860909165 for aWord by aWord_self
name_quick tw17517737089405305841 for aWord by aWord_self
name_quick tw13746126617404028095 for aWord by aWord_self
name_quick tw11825729669827539873 for aWord by aWord_self
name_quick tw1402947280878808549 for aWord by aWord_self
name_quick tw7299951869573292228 for aWord by aWord_self
name_quick tw16366562015402752707 for aWord by aWord_self
name_quick tw4966893808263662355 for aWord by aWord_self
name_quick tw13951257522405164796 for aWord by aWord_self
name_quick tw7082770336023389322 for aWord by aWord_self
name_quick tw16846860572762119324 for aWord by aWord_self
name_quick tw17018628822417861297 for aWord by aWord_self
name_quick tw13215998728584607739 for aWord by aWord_self
name_quick tw11588390666370768167 for aWord by aWord_self
name_quick tw10719484529398299949 for aWord by aWord_self
name_quick tw8488268690174267210 for aWord by aWord_self
name_quick tw4558998842232669794 for aWord by aWord_self
name_quick tw14837249469386935497 for aWord by aWord_self
name_quick tw2660918139993853925 for aWord by aWord_self
name_quick tw4109823476700235019 for aWord by aWord_self
name_quick tw2506853364499732696 for aWord by aWord_self
name_quick tw505943868828395459 for aWord by aWord_self
name_quick tw5832503352825792928 for aWord by aWord_self
name_quick tw7009043117176579089 for aWord by aWord_self
name_quick tw12660628722211587041 for aWord by aWord_self
name_quick tw1189734492583310 for aWord by aWord_self
name_quick tw9206804518496725263 for aWord by aWord_self
name_quick tw764782834095389478 for aWord by aWord_self
name_quick tw18350638575300117064 for aWord by aWord_self
name_quick tw6679490504615227074 for aWord by aWord_self
name_quick tw9948023125614773506 for aWord by aWord_self
name_quick tw14214133299417103183 for aWord by aWord_self
name_quick tw10057510723706494237 for aWord by aWord_self
name_quick tw13016732220969518872 for aWord by aWord_self
name_quick tw17730448691065144110 for aWord by aWord_self
name_quick tw9564595351457756722 for aWord by aWord_self
name_quick tw9626621113073979434 for aWord by aWord_self
name_quick tw7650934615059315214 for aWord by aWord_self
name_quick tw10758392820592806131 for aWord by aWord_self
name_quick tw4090926877573551719 for aWord by aWord_self
name_quick tw1708024556718086227 for aWord by aWord_self
name_quick tw11519604305632133818 for aWord by aWord_self
name_quick tw6448080314894763839 for aWord by aWord_self
name_quick tw6127375697748050860 for aWord by aWord_self
name_quick tw3972328310683599613 for aWord by aWord_self
name_quick tw18345786424863182364 for aWord by aWord_self
name_quick tw6019396324639902685 for aWord by aWord_self
name_quick tw14386061602966655976 for aWord by aWord_self
name_quick tw15806122291839087668 for aWord by aWord_self
name_quick tw7585139358526817783 for aWord by aWord_self
name_quick tw12731603968600162155 for aWord by aWord_self
name_quick tw716658179208862652 for aWord by aWord_self
name_quick tw15480198773659482676 for aWord by aWord_self
name_quick tw973662469405803806 for aWord by aWord_self
name_quick tw5032809538720368765 for aWord by aWord_self
name_quick tw6122645084068987007 for aWord by aWord_self
name_quick tw3039592710220408265 for aWord by aWord_self
name_quick tw4797165386629745026 for aWord by aWord_self
name_quick tw8224813933742928703 for aWord by aWord_self
name_quick tw15450981722951097364 for aWord by aWord_self
name_quick tw3976722010076183465 for aWord by aWord_self
name_quick tw17244072584429378644 for aWord by aWord_self
name_quick tw12981051755390344553 for aWord by aWord_self
name_quick tw15980859228951719591 for aWord by aWord_self
name_quick tw16039550372008468697 for aWord by aWord_self
name_quick tw13607416678640721797 for aWord by aWord_self
name_quick tw2193789692954389824 for aWord by aWord_self
name_quick tw16741492637210864865 for aWord by aWord_self
name_quick tw9787463984185863102 for aWord by aWord_self
name_quick tw17954471519018878134 for aWord by aWord_self
name_quick tw7503421922109321716 for aWord by aWord_self
name_quick tw2001226814458364393 for aWord by aWord_self
name_quick tw7499937903120025604 for aWord by aWord_self
name_quick tw15215539614974913122 for aWord by aWord_self
name_quick tw14544052848187043789 for aWord by aWord_self
name_quick tw14934708107589980039 for aWord by aWord_self
name_quick tw14043711374191979534 for aWord by aWord_self
name_quick tw441327347791068078 for aWord by aWord_self
name_quick tw4075660801711882420 for aWord by aWord_self
name_quick tw11939915149646268982 for aWord by aWord_self
name_quick tw12224578244612797663 for aWord by aWord_self
name_quick tw4071324889030633612 for aWord by aWord_self
name_quick tw4858009861420398278 for aWord by aWord_self
name_quick tw9759809726879904816 for aWord by aWord_self
name_quick tw13981391230805400906 for aWord by aWord_self
name_quick tw16414604833108395602 for aWord by aWord_self
name_quick tw12898947447245864913 for aWord by aWord_self
name_quick tw7269565832213808900 for aWord by aWord_self
name_quick tw9151444980202551346 for aWord by aWord_self
name_quick tw11707433790658880453 for aWord by aWord_self
name_quick tw3264259588550801142 for aWord by aWord_self
name_quick tw13903129631018457399 for aWord by aWord_self
name_quick tw4636218855388986860 for aWord by aWord_self
name_quick tw18101931140130867144 for aWord by aWord_self
name_quick tw6891000109920058784 for aWord by aWord_self
name_quick tw18163462532019968843 for aWord by aWord_self
name_quick tw10379131730601215995 for aWord by aWord_self
name_quick tw9504726810853072989 for aWord by aWord_self
name_quick tw15079194523842364033 for aWord by aWord_self
name_quick tw4824431525194463578 for aWord by aWord_self
name_quick tw9908251947323293946 for aWord by aWord_self
name_quick tw8206430501311747189 for aWord by aWord_self
name_quick tw14073706353221006472 for aWord by aWord_self
name_quick tw12237943961548833269 for aWord by aWord_self
name_quick tw3105397867545767578 for aWord by aWord_self
name_quick tw3636048126100218174 for aWord by aWord_self
name_quick tw8595292554425487202 for aWord by aWord_self
name_quick tw10939839348159177617 for aWord by aWord_self
name_quick tw932993149863042379 for aWord by aWord_self
name_quick tw2670528217467546775 for aWord by aWord_self
name_quick tw10487160056961263569 for aWord by aWord_self
name_quick tw15902184279288820625 for aWord by aWord_self
name_quick tw14952990662201256454 for aWord by aWord_self
name_quick tw1869930749605803152 for aWord by aWord_self
name_quick tw3865406201487662470 for aWord by aWord_self
name_quick tw16648231224745350325 for aWord by aWord_self
name_quick tw11108263761283441063 for aWord by aWord_self
name_quick tw17672482021469178181 for aWord by aWord_self
name_quick tw10670733350059645105 for aWord by aWord_self
name_quick tw12659028871203227004 for aWord by aWord_self
name_quick tw1258299570235058372 for aWord by aWord_self
name_quick tw8450942572126056277 for aWord by aWord_self
name_quick tw15059462757989803610 for aWord by aWord_self
name_quick tw8400853705098224536 for aWord by aWord_self
name_quick tw6654550962395885724 for aWord by aWord_self
name_quick tw10508251915553800215 for aWord by aWord_self
name_quick tw2664551874359636763 for aWord by aWord_self
name_quick tw136631920214876835 for aWord by aWord_self
name_quick tw16643379632663270332 for aWord by aWord_self
name_quick tw16942504070071679284 for aWord by aWord_self
name_quick tw503676674663206642 for aWord by aWord_self
name_quick tw6587116730350146372 for aWord by aWord_self
name_quick tw9529234661008812162 for aWord by aWord_self
name_quick tw12679591844961189642 for aWord by aWord_self
name_quick tw662354867322794072 for aWord by aWord_self
name_quick tw16439824349840649037 for aWord by aWord_self
name_quick tw13987355940573415152 for aWord by aWord_self
name_quick tw607167704815816724 for aWord by aWord_self
name_quick tw9736788993784561348 for aWord by aWord_self
name_quick tw14108194823987119177 for aWord by aWord_self
name_quick tw1574873078441994576 for aWord by aWord_self
name_quick tw11328821685186248670 for aWord by aWord_self
name_quick tw9236875199018929784 for aWord by aWord_self
name_quick tw11036193050239951465 for aWord by aWord_self
name_quick tw7504490480230193789 for aWord by aWord_self
name_quick tw17803129079492736432 for aWord by aWord_self
name_quick tw17804436615005485693 for aWord by aWord_self
name_quick tw16873187988247708562 for aWord by aWord_self
name_quick tw10352308551163946355 for aWord by aWord_self
name_quick tw14209830616999942402 for aWord by aWord_self
name_quick tw16655555454665732581 for aWord by aWord_self
name_quick tw3131671291697673992 for aWord by aWord_self
name_quick tw9575731206691268911 for aWord by aWord_self
name_quick tw18211773271919218964 for aWord by aWord_self
name_quick tw4318056027017086478 for aWord by aWord_self
name_quick tw10470071008263537045 for aWord by aWord_self
name_quick tw4292500188555128830 for aWord by aWord_self
name_quick tw9315938663221665524 for aWord by aWord_self
name_quick tw5068434257544371817 for aWord by aWord_self
name_quick tw13512673800721320934 for aWord by aWord_self
name_quick tw14530364306720264245 for aWord by aWord_self
name_quick tw13871001218405608335 for aWord by aWord_self
name_quick tw16296994325663420285 for aWord by aWord_self
name_quick tw151948405760981731 for aWord by aWord_self
name_quick tw1749818173716722547 for aWord by aWord_self
name_quick tw470574548607681690 for aWord by aWord_self
name_quick tw16223305294053301992 for aWord by aWord_self
name_quick tw1544652992362985085 for aWord by aWord_self
name_quick tw5706481520468235054 for aWord by aWord_self
name_quick tw3424931102881643321 for aWord by aWord_self
name_quick tw3325841961599345399 for aWord by aWord_self
name_quick tw4613930686462287906 for aWord by aWord_self
name_quick tw6213141578215901147 for aWord by aWord_self
name_quick tw17827458813498177553 for aWord by aWord_self
name_quick tw15199281503961881116 for aWord by aWord_self
name_quick tw3891137856419664920 for aWord by aWord_self
name_quick tw2958062672499776758 for aWord by aWord_self
name_quick tw1772237422875290029 for aWord by aWord_self
name_quick tw10500077913531017323 for aWord by aWord_self
name_quick tw14186486079044719983 for aWord by aWord_self
name_quick tw11277413387252134812 for aWord by aWord_self
name_quick tw17719373434677690450 for aWord by aWord_self
name_quick tw17476080006546285661 for aWord by aWord_self
name_quick tw16406328271908756883 for aWord by aWord_self
name_quick tw13526986893379352335 for aWord by aWord_self
name_quick tw14305139224198610471 for aWord by aWord_self
name_quick tw721709456127091705 for aWord by aWord_self
name_quick tw1401972060568974870 for aWord by aWord_self
name_quick tw16494616584097029746 for aWord by aWord_self
name_quick tw17814930658547583709 for aWord by aWord_self
name_quick tw9821368406582625841 for aWord by aWord_self
name_quick tw13251646731365433171 for aWord by aWord_self
name_quick tw4933834842325187142 for aWord by aWord_self
name_quick tw9979284746773624096 for aWord by aWord_self
name_quick tw3427515755752030745 for aWord by aWord_self
name_quick tw5720267713326709755 for aWord by aWord_self
name_quick tw17069979004554194336 for aWord by aWord_self
name_quick tw9281714027785469542 for aWord by aWord_self
name_quick tw15112985482279097393 for aWord by aWord_self
name_quick tw14126943448341045398 for aWord by aWord_self
name_quick tw16792545251062261874 for aWord by aWord_self
name_quick tw3766158894648301139 for aWord by aWord_self
name_quick tw3315324234476444515 for aWord by aWord_self
name_quick tw930746551332336609 for aWord by aWord_self
name_quick tw1886563365779066154 for aWord by aWord_self
name_quick tw17279654841073493023 for aWord by aWord_self
name_quick tw10317580896714288900 for aWord by aWord_self
name_quick tw2599325451414397859 for aWord by aWord_self
name_quick tw6135381517318000843 for aWord by aWord_self
name_quick tw5565278806992967083 for aWord by aWord_self
name_quick tw5952267759425050802 for aWord by aWord_self
name_quick tw6132934438814934913 for aWord by aWord_self
name_quick tw12177639751122801600 for aWord by aWord_self
name_quick tw13902233598862641821 for aWord by aWord_self
name_quick tw14420389602138693270 for aWord by aWord_self
name_quick tw4549333791460862111 for aWord by aWord_self
name_quick tw5758256569797452207 for aWord by aWord_self
name_quick tw8253183596043897158 for aWord by aWord_self
name_quick tw667198328695590252 for aWord by aWord_self
name_quick tw18416463498863911781 for aWord by aWord_self
name_quick tw9862997608875712007 for aWord by aWord_self
name_quick tw219737044198020058 for aWord by aWord_self
name_quick tw2408619945344806742 for aWord by aWord_self
name_quick tw2711585505577850959 for aWord by aWord_self
name_quick tw16697116713213952808 for aWord by aWord_self
name_quick tw16548257151911338427 for aWord by aWord_self
name_quick tw1184552218554016812 for aWord by aWord_self
name_quick tw1638017585896720355 for aWord by aWord_self
name_quick tw2401699919119007470 for aWord by aWord_self
name_quick tw5925582254088234700 for aWord by aWord_self
name_quick tw17842620306162639686 for aWord by aWord_self
name_quick tw8703263022893421829 for aWord by aWord_self
name_quick tw7405434945208526273 for aWord by aWord_self
name_quick tw14981143343336467331 for aWord by aWord_self
name_quick tw18123110421147349612 for aWord by aWord_self
name_quick tw2134368852220247820 for aWord by aWord_self
name_quick tw7733015712792483723 for aWord by aWord_self
name_quick tw16328912562034613984 for aWord by aWord_self
name_quick tw6683783046931543321 for aWord by aWord_self
name_quick tw951843321253372498 for aWord by aWord_self
name_quick tw15475462885187679331 for aWord by aWord_self
name_quick tw8693227569615203950 for aWord by aWord_self
name_quick tw10942035263794033107 for aWord by aWord_self
name_quick tw6580340599500149305 for aWord by aWord_self
name_quick tw11566699232636054958 for aWord by aWord_self
name_quick tw6711915476519705758 for aWord by aWord_self
name_quick tw15766043655864335149 for aWord by aWord_self
name_quick tw12022618010286034681 for aWord by aWord_self
name_quick tw17765544955259793912 for aWord by aWord_self
name_quick tw5228443966233409354 for aWord by aWord_self
name_quick tw17341736924252097559 for aWord by aWord_self
name_quick tw2447775223705975068 for aWord by aWord_self
name_quick tw12172078356533094185 for aWord by aWord_self
name_quick tw15157221202141545114 for aWord by aWord_self
name_quick tw4434333111790514575 for aWord by aWord_self
name_quick tw2078703811421203504 for aWord by aWord_self
name_quick tw15560500314895047343 for aWord by aWord_self
name_quick tw17520869792638436183 for aWord by aWord_self
name_quick tw2283851925072248500 for aWord by aWord_self
name_quick tw15278061642289888581 for aWord by aWord_self
name_quick tw14553827428707814869 for aWord by aWord_self
name_quick tw1204117194425446250 for aWord by aWord_self
name_quick tw5189142188285759775 for aWord by aWord_self
name_quick tw1379578315556383370 for aWord by aWord_self
name_quick tw13759679279233594173 for aWord by aWord_self
name_quick tw3327986453032591115 for aWord by aWord_self
name_quick tw11310463157757771331 for aWord by aWord_self
name_quick tw535072334866317008 for aWord by aWord_self
name_quick tw3768068617246420682 for aWord by aWord_self
name_quick tw7035115661146626270 for aWord by aWord_self
name_quick tw13925586954763233925 for aWord by aWord_self
name_quick tw14168537005229113720 for aWord by aWord_self
name_quick tw4980102563643897964 for aWord by aWord_self
name_quick tw5721027456603625697 for aWord by aWord_self
name_quick tw12177649209318274912 for aWord by aWord_self
name_quick tw17828083071136270317 for aWord by aWord_self
name_quick tw17730428716208468724 for aWord by aWord_self
name_quick tw15168306246750427876 for aWord by aWord_self
name_quick tw15663404670287596823 for aWord by aWord_self
name_quick tw5518745428033880147 for aWord by aWord_self
name_quick tw3698559305507148144 for aWord by aWord_self
name_quick tw12734952128020822468 for aWord by aWord_self
name_quick tw11853533878840232495 for aWord by aWord_self
name_quick tw1267870562809915468 for aWord by aWord_self
name_quick tw12832477231654346042 for aWord by aWord_self
name_quick tw5386766301290243201 for aWord by aWord_self
name_quick tw16645262185327669138 for aWord by aWord_self
name_quick tw6624491594363574236 for aWord by aWord_self
name_quick tw15773981995205291829 for aWord by aWord_self
name_quick tw11166942722945506595 for aWord by aWord_self
name_quick tw15323854079317868165 for aWord by aWord_self
name_quick tw13915792640404377917 for aWord by aWord_self
name_quick tw189603312586018693 for aWord by aWord_self
name_quick tw13335737130258781183 for aWord by aWord_self
set_option maxRecDepth 100000 in
set_option maxHeartbeats 8000000 in
open_top hd for PySem.Challenge.rw_rh0107_01
end Mine

section
set_option Elab.async false
set_option maxRecDepth 100000
namespace Mine
open PySem PySem.W
set_option linter.unusedVariables false
universe u0 u1 u2 u3 u4 u5 u6
theorem xE0A1 {p0 p1 : Prop} {q : Prop} (h : p0 ∧ p1) (k : p0 → p1 → q) : q := k h.1 h.2
theorem xE0A2 {p0 p1 p2 : Prop} {q : Prop} (h : p0 ∧ p1 ∧ p2) (k : p0 → p1 → p2 → q) : q := k h.1 h.2.1 h.2.2
theorem xE0A3 {p0 p1 p2 p3 : Prop} {q : Prop} (h : p0 ∧ p1 ∧ p2 ∧ p3) (k : p0 → p1 → p2 → p3 → q) : q := k h.1 h.2.1 h.2.2.1 h.2.2.2
theorem xE0A4 {p0 p1 p2 p3 p4 : Prop} {q : Prop} (h : p0 ∧ p1 ∧ p2 ∧ p3 ∧ p4) (k : p0 → p1 → p2 → p3 → p4 → q) : q := k h.1 h.2.1 h.2.2.1 h.2.2.2.1 h.2.2.2.2
theorem xE0A5 {p0 p1 p2 p3 p4 p5 : Prop} {q : Prop} (h : p0 ∧ p1 ∧ p2 ∧ p3 ∧ p4 ∧ p5) (k : p0 → p1 → p2 → p3 → p4 → p5 → q) : q := k h.1 h.2.1 h.2.2.1 h.2.2.2.1 h.2.2.2.2.1 h.2.2.2.2.2
theorem xE0A6 {p0 p1 p2 p3 p4 p5 p6 : Prop} {q : Prop} (h : p0 ∧ p1 ∧ p2 ∧ p3 ∧ p4 ∧ p5 ∧ p6) (k : p0 → p1 → p2 → p3 → p4 → p5 → p6 → q) : q := k h.1 h.2.1 h.2.2.1 h.2.2.2.1 h.2.2.2.2.1 h.2.2.2.2.2.1 h.2.2.2.2.2.2
theorem xE0A7 {p0 p1 p2 p3 p4 p5 p6 p7 : Prop} {q : Prop} (h : p0 ∧ p1 ∧ p2 ∧ p3 ∧ p4 ∧ p5 ∧ p6 ∧ p7) (k : p0 → p1 → p2 → p3 → p4 → p5 → p6 → p7 → q) : q := k h.1 h.2.1 h.2.2.1 h.2.2.2.1 h.2.2.2.2.1 h.2.2.2.2.2.1 h.2.2.2.2.2.2.1 h.2.2.2.2.2.2.2
theorem xE0A8 {p0 p1 p2 p3 p4 p5 p6 p7 p8 : Prop} {q : Prop} (h : p0 ∧ p1 ∧ p2 ∧ p3 ∧ p4 ∧ p5 ∧ p6 ∧ p7 ∧ p8) (k : p0 → p1 → p2 → p3 → p4 → p5 → p6 → p7 → p8 → q) : q := k h.1 h.2.1 h.2.2.1 h.2.2.2.1 h.2.2.2.2.1 h.2.2.2.2.2.1 h.2.2.2.2.2.2.1 h.2.2.2.2.2.2.2.1 h.2.2.2.2.2.2.2.2
theorem xE1A0 {α0 : Sort u0} {p0 : α0 → Prop} {q : Prop} (h : ∃ x0, p0 x0) (k : ∀ x0, p0 x0 → q) : q := h.elim fun x0 h => k x0 h
theorem xE1A1 {α0 : Sort u0} {p0 p1 : α0 → Prop} {q : Prop} (h : ∃ x0, p0 x0 ∧ p1 x0) (k : ∀ x0, p0 x0 → p1 x0 → q) : q := h.elim fun x0 h => k x0 h.1 h.2
theorem xE1A2 {α0 : Sort u0} {p0 p1 p2 : α0 → Prop} {q : Prop} (h : ∃ x0, p0 x0 ∧ p1 x0 ∧ p2 x0) (k : ∀ x0, p0 x0 → p1 x0 → p2 x0 → q) : q := h.elim fun x0 h => k x0 h.1 h.2.1 h.2.2
theorem xE1A3 {α0 : Sort u0} {p0 p1 p2 p3 : α0 → Prop} {q : Prop} (h : ∃ x0, p0 x0 ∧ p1 x0 ∧ p2 x0 ∧ p3 x0) (k : ∀ x0, p0 x0 → p1 x0 → p2 x0 → p3 x0 → q) : q := h.elim fun x0 h => k x0 h.1 h.2.1 h.2.2.1 h.2.2.2
theorem xE2A0 {α0 : Sort u0} {α1 : Sort u1} {p0 : α0 → α1 → Prop} {q : Prop} (h : ∃ x0 x1, p0 x0 x1) (k : ∀ x0 x1, p0 x0 x1 → q) : q := h.elim fun x0 h => h.elim fun x1 h => k x0 x1 h
theorem xE2A1 {α0 : Sort u0} {α1 : Sort u1} {p0 p1 : α0 → α1 → Prop} {q : Prop} (h : ∃ x0 x1, p0 x0 x1 ∧ p1 x0 x1) (k : ∀ x0 x1, p0 x0 x1 → p1 x0 x1 → q) : q := h.elim fun x0 h => h.elim fun x1 h => k x0 x1 h.1 h.2
theorem xE2A2 {α0 : Sort u0} {α1 : Sort u1} {p0 p1 p2 : α0 → α1 → Prop} {q : Prop} (h : ∃ x0 x1, p0 x0 x1 ∧ p1 x0 x1 ∧ p2 x0 x1) (k : ∀ x0 x1, p0 x0 x1 → p1 x0 x1 → p2 x0 x1 → q) : q := h.elim fun x0 h => h.elim fun x1 h => k x0 x1 h.1 h.2.1 h.2.2
theorem xE2A3 {α0 : Sort u0} {α1 : Sort u1} {p0 p1 p2 p3 : α0 → α1 → Prop} {q : Prop} (h : ∃ x0 x1, p0 x0 x1 ∧ p1 x0 x1 ∧ p2 x0 x1 ∧ p3 x0 x1) (k : ∀ x0 x1, p0 x0 x1 → p1 x0 x1 → p2 x0 x1 → p3 x0 x1 → q) : q := h.elim fun x0 h => h.elim fun x1 h => k x0 x1 h.1 h.2.1 h.2.2.1 h.2.2.2
theorem xE2A4 {α0 : Sort u0} {α1 : Sort u1} {p0 p1 p2 p3 p4 : α0 → α1 → Prop} {q : Prop} (h : ∃ x0 x1, p0 x0 x1 ∧ p1 x0 x1 ∧ p2 x0 x1 ∧ p3 x0 x1 ∧ p4 x0 x1) (k : ∀ x0 x1, p0 x0 x1 → p1 x0 x1 → p2 x0 x1 → p3 x0 x1 → p4 x0 x1 → q) : q := h.elim fun x0 h => h.elim fun x1 h => k x0 x1 h.1 h.2.1 h.2.2.1 h.2.2.2.1 h.2.2.2.2
theorem xE2A5 {α0 : Sort u0} {α1 : Sort u1} {p0 p1 p2 p3 p4 p5 : α0 → α1 → Prop} {q : Prop} (h : ∃ x0 x1, p0 x0 x1 ∧ p1 x0 x1 ∧ p2 x0 x1 ∧ p3 x0 x1 ∧ p4 x0 x1 ∧ p5 x0 x1) (k : ∀ x0 x1, p0 x0 x1 → p1 x0 x1 → p2 x0 x1 → p3 x0 x1 → p4 x0 x1 → p5 x0 x1 → q) : q := h.elim fun x0 h => h.elim fun x1 h => k x0 x1 h.1 h.2.1 h.2.2.1 h.2.2.2.1 h.2.2.2.2.1 h.2.2.2.2.2
theorem xE3A0 {α0 : Sort u0} {α1 : Sort u1} {α2 : Sort u2} {p0 : α0 → α1 → α2 → Prop} {q : Prop} (h : ∃ x0 x1 x2, p0 x0 x1 x2) (k : ∀ x0 x1 x2, p0 x0 x1 x2 → q) : q := h.elim fun x0 h => h.elim fun x1 h => h.elim fun x2 h => k x0 x1 x2 h
theorem xE3A1 {α0 : Sort u0} {α1 : Sort u1} {α2 : Sort u2} {p0 p1 : α0 → α1 → α2 → Prop} {q : Prop} (h : ∃ x0 x1 x2, p0 x0 x1 x2 ∧ p1 x0 x1 x2) (k : ∀ x0 x1 x2, p0 x0 x1 x2 → p1 x0 x1 x2 → q) : q := h.elim fun x0 h => h.elim fun x1 h => h.elim fun x2 h => k x0 x1 x2 h.1 h.2
theorem xE3A2 {α0 : Sort u0} {α1 : Sort u1} {α2 : Sort u2} {p0 p1 p2 : α0 → α1 → α2 → Prop} {q : Prop} (h : ∃ x0 x1 x2, p0 x0 x1 x2 ∧ p1 x0 x1 x2 ∧ p2 x0 x1 x2) (k : ∀ x0 x1 x2, p0 x0 x1 x2 → p1 x0 x1 x2 → p2 x0 x1 x2 → q) : q := h.elim fun x0 h => h.elim fun x1 h => h.elim fun x2 h => k x0 x1 x2 h.1 h.2.1 h.2.2
theorem xE3A3 {α0 : Sort u0} {α1 : Sort u1} {α2 : Sort u2} {p0 p1 p2 p3 : α0 → α1 → α2 → Prop} {q : Prop} (h : ∃ x0 x1 x2, p0 x0 x1 x2 ∧ p1 x0 x1 x2 ∧ p2 x0 x1 x2 ∧ p3 x0 x1 x2) (k : ∀ x0 x1 x2, p0 x0 x1 x2 → p1 x0 x1 x2 → p2 x0 x1 x2 → p3 x0 x1 x2 → q) : q := h.elim fun x0 h => h.elim fun x1 h => h.elim fun x2 h => k x0 x1 x2 h.1 h.2.1 h.2.2.1 h.2.2.2
theorem xE3A4 {α0 : Sort u0} {α1 : Sort u1} {α2 : Sort u2} {p0 p1 p2 p3 p4 : α0 → α1 → α2 → Prop} {q : Prop} (h : ∃ x0 x1 x2, p0 x0 x1 x2 ∧ p1 x0 x1 x2 ∧ p2 x0 x1 x2 ∧ p3 x0 x1 x2 ∧ p4 x0 x1 x2) (k : ∀ x0 x1 x2, p0 x0 x1 x2 → p1 x0 x1 x2 → p2 x0 x1 x2 → p3 x0 x1 x2 → p4 x0 x1 x2 → q) : q := h.elim fun x0 h => h.elim fun x1 h => h.elim fun x2 h => k x0 x1 x2 h.1 h.2.1 h.2.2.1 h.2.2.2.1 h.2.2.2.2
theorem xE3A5 {α0 : Sort u0} {α1 : Sort u1} {α2 : Sort u2} {p0 p1 p2 p3 p4 p5 : α0 → α1 → α2 → Prop} {q : Prop} (h : ∃ x0 x1 x2, p0 x0 x1 x2 ∧ p1 x0 x1 x2 ∧ p2 x0 x1 x2 ∧ p3 x0 x1 x2 ∧ p4 x0 x1 x2 ∧ p5 x0 x1 x2) (k : ∀ x0 x1 x2, p0 x0 x1 x2 → p1 x0 x1 x2 → p2 x0 x1 x2 → p3 x0 x1 x2 → p4 x0 x1 x2 → p5 x0 x1 x2 → q) : q := h.elim fun x0 h => h.elim fun x1 h => h.elim fun x2 h => k x0 x1 x2 h.1 h.2.1 h.2.2.1 h.2.2.2.1 h.2.2.2.2.1 h.2.2.2.2.2
theorem xE3A6 {α0 : Sort u0} {α1 : Sort u1} {α2 : Sort u2} {p0 p1 p2 p3 p4 p5 p6 : α0 → α1 → α2 → Prop} {q : Prop} (h : ∃ x0 x1 x2, p0 x0 x1 x2 ∧ p1 x0 x1 x2 ∧ p2 x0 x1 x2 ∧ p3 x0 x1 x2 ∧ p4 x0 x1 x2 ∧ p5 x0 x1 x2 ∧ p6 x0 x1 x2) (k : ∀ x0 x1 x2, p0 x0 x1 x2 → p1 x0 x1 x2 → p2 x0 x1 x2 → p3 x0 x1 x2 → p4 x0 x1 x2 → p5 x0 x1 x2 → p6 x0 x1 x2 → q) : q := h.elim fun x0 h => h.elim fun x1 h => h.elim fun x2 h => k x0 x1 x2 h.1 h.2.1 h.2.2.1 h.2.2.2.1 h.2.2.2.2.1 h.2.2.2.2.2.1 h.2.2.2.2.2.2
theorem xE3A7 {α0 : Sort u0} {α1 : Sort u1} {α2 : Sort u2} {p0 p1 p2 p3 p4 p5 p6 p7 : α0 → α1 → α2 → Prop} {q : Prop} (h : ∃ x0 x1 x2, p0 x0 x1 x2 ∧ p1 x0 x1 x2 ∧ p2 x0 x1 x2 ∧ p3 x0 x1 x2 ∧ p4 x0 x1 x2 ∧ p5 x0 x1 x2 ∧ p6 x0 x1 x2 ∧ p7 x0 x1 x2) (k : ∀ x0 x1 x2, p0 x0 x1 x2 → p1 x0 x1 x2 → p2 x0 x1 x2 → p3 x0 x1 x2 → p4 x0 x1 x2 → p5 x0 x1 x2 → p6 x0 x1 x2 → p7 x0 x1 x2 → q) : q := h.elim fun x0 h => h.elim fun x1 h => h.elim fun x2 h => k x0 x1 x2 h.1 h.2.1 h.2.2.1 h.2.2.2.1 h.2.2.2.2.1 h.2.2.2.2.2.1 h.2.2.2.2.2.2.1 h.2.2.2.2.2.2.2
theorem xE4A0 {α0 : Sort u0} {α1 : Sort u1} {α2 : Sort u2} {α3 : Sort u3} {p0 : α0 → α1 → α2 → α3 → Prop} {q : Prop} (h : ∃ x0 x1 x2 x3, p0 x0 x1 x2 x3) (k : ∀ x0 x1 x2 x3, p0 x0 x1 x2 x3 → q) : q := h.elim fun x0 h => h.elim fun x1 h => h.elim fun x2 h => h.elim fun x3 h => k x0 x1 x2 x3 h
theorem xE4A1 {α0 : Sort u0} {α1 : Sort u1} {α2 : Sort u2} {α3 : Sort u3} {p0 p1 : α0 → α1 → α2 → α3 → Prop} {q : Prop} (h : ∃ x0 x1 x2 x3, p0 x0 x1 x2 x3 ∧ p1 x0 x1 x2 x3) (k : ∀ x0 x1 x2 x3, p0 x0 x1 x2 x3 → p1 x0 x1 x2 x3 → q) : q := h.elim fun x0 h => h.elim fun x1 h => h.elim fun x2 h => h.elim fun x3 h => k x0 x1 x2 x3 h.1 h.2
theorem xE4A2 {α0 : Sort u0} {α1 : Sort u1} {α2 : Sort u2} {α3 : Sort u3} {p0 p1 p2 : α0 → α1 → α2 → α3 → Prop} {q : Prop} (h : ∃ x0 x1 x2 x3, p0 x0 x1 x2 x3 ∧ p1 x0 x1 x2 x3 ∧ p2 x0 x1 x2 x3) (k : ∀ x0 x1 x2 x3, p0 x0 x1 x2 x3 → p1 x0 x1 x2 x3 → p2 x0 x1 x2 x3 → q) : q := h.elim fun x0 h => h.elim fun x1 h => h.elim fun x2 h => h.elim fun x3 h => k x0 x1 x2 x3 h.1 h.2.1 h.2.2
theorem xE4A5 {α0 : Sort u0} {α1 : Sort u1} {α2 : Sort u2} {α3 : Sort u3} {p0 p1 p2 p3 p4 p5 : α0 → α1 → α2 → α3 → Prop} {q : Prop} (h : ∃ x0 x1 x2 x3, p0 x0 x1 x2 x3 ∧ p1 x0 x1 x2 x3 ∧ p2 x0 x1 x2 x3 ∧ p3 x0 x1 x2 x3 ∧ p4 x0 x1 x2 x3 ∧ p5 x0 x1 x2 x3) (k : ∀ x0 x1 x2 x3, p0 x0 x1 x2 x3 → p1 x0 x1 x2 x3 → p2 x0 x1 x2 x3 → p3 x0 x1 x2 x3 → p4 x0 x1 x2 x3 → p5 x0 x1 x2 x3 → q) : q := h.elim fun x0 h => h.elim fun x1 h => h.elim fun x2 h => h.elim fun x3 h => k x0 x1 x2 x3 h.1 h.2.1 h.2.2.1 h.2.2.2.1 h.2.2.2.2.1 h.2.2.2.2.2
theorem xE4A10 {α0 : Sort u0} {α1 : Sort u1} {α2 : Sort u2} {α3 : Sort u3} {p0 p1 p2 p3 p4 p5 p6 p7 p8 p9 p10 : α0 → α1 → α2 → α3 → Prop} {q : Prop} (h : ∃ x0 x1 x2 x3, p0 x0 x1 x2 x3 ∧ p1 x0 x1 x2 x3 ∧ p2 x0 x1 x2 x3 ∧ p3 x0 x1 x2 x3 ∧ p4 x0 x1 x2 x3 ∧ p5 x0 x1 x2 x3 ∧ p6 x0 x1 x2 x3 ∧ p7 x0 x1 x2 x3 ∧ p8 x0 x1 x2 x3 ∧ p9 x0 x1 x2 x3 ∧ p10 x0 x1 x2 x3) (k : ∀ x0 x1 x2 x3, p0 x0 x1 x2 x3 → p1 x0 x1 x2 x3 → p2 x0 x1 x2 x3 → p3 x0 x1 x2 x3 → p4 x0 x1 x2 x3 → p5 x0 x1 x2 x3 → p6 x0 x1 x2 x3 → p7 x0 x1 x2 x3 → p8 x0 x1 x2 x3 → p9 x0 x1 x2 x3 → p10 x0 x1 x2 x3 → q) : q := h.elim fun x0 h => h.elim fun x1 h => h.elim fun x2 h => h.elim fun x3 h => k x0 x1 x2 x3 h.1 h.2.1 h.2.2.1 h.2.2.2.1 h.2.2.2.2.1 h.2.2.2.2.2.1 h.2.2.2.2.2.2.1 h.2.2.2.2.2.2.2.1 h.2.2.2.2.2.2.2.2.1 h.2.2.2.2.2.2.2.2.2.1 h.2.2.2.2.2.2.2.2.2.2
theorem xE5A0 {α0 : Sort u0} {α1 : Sort u1} {α2 : Sort u2} {α3 : Sort u3} {α4 : Sort u4} {p0 : α0 → α1 → α2 → α3 → α4 → Prop} {q : Prop} (h : ∃ x0 x1 x2 x3 x4, p0 x0 x1 x2 x3 x4) (k : ∀ x0 x1 x2 x3 x4, p0 x0 x1 x2 x3 x4 → q) : q := h.elim fun x0 h => h.elim fun x1 h => h.elim fun x2 h => h.elim fun x3 h => h.elim fun x4 h => k x0 x1 x2 x3 x4 h
theorem xE5A5 {α0 : Sort u0} {α1 : Sort u1} {α2 : Sort u2} {α3 : Sort u3} {α4 : Sort u4} {p0 p1 p2 p3 p4 p5 : α0 → α1 → α2 → α3 → α4 → Prop} {q : Prop} (h : ∃ x0 x1 x2 x3 x4, p0 x0 x1 x2 x3 x4 ∧ p1 x0 x1 x2 x3 x4 ∧ p2 x0 x1 x2 x3 x4 ∧ p3 x0 x1 x2 x3 x4 ∧ p4 x0 x1 x2 x3 x4 ∧ p5 x0 x1 x2 x3 x4) (k : ∀ x0 x1 x2 x3 x4, p0 x0 x1 x2 x3 x4 → p1 x0 x1 x2 x3 x4 → p2 x0 x1 x2 x3 x4 → p3 x0 x1 x2 x3 x4 → p4 x0 x1 x2 x3 x4 → p5 x0 x1 x2 x3 x4 → q) : q := h.elim fun x0 h => h.elim fun x1 h => h.elim fun x2 h => h.elim fun x3 h => h.elim fun x4 h => k x0 x1 x2 x3 x4 h.1 h.2.1 h.2.2.1 h.2.2.2.1 h.2.2.2.2.1 h.2.2.2.2.2
theorem xE5A8 {α0 : Sort u0} {α1 : Sort u1} {α2 : Sort u2} {α3 : Sort u3} {α4 : Sort u4} {p0 p1 p2 p3 p4 p5 p6 p7 p8 : α0 → α1 → α2 → α3 → α4 → Prop} {q : Prop} (h : ∃ x0 x1 x2 x3 x4, p0 x0 x1 x2 x3 x4 ∧ p1 x0 x1 x2 x3 x4 ∧ p2 x0 x1 x2 x3 x4 ∧ p3 x0 x1 x2 x3 x4 ∧ p4 x0 x1 x2 x3 x4 ∧ p5 x0 x1 x2 x3 x4 ∧ p6 x0 x1 x2 x3 x4 ∧ p7 x0 x1 x2 x3 x4 ∧ p8 x0 x1 x2 x3 x4) (k : ∀ x0 x1 x2 x3 x4, p0 x0 x1 x2 x3 x4 → p1 x0 x1 x2 x3 x4 → p2 x0 x1 x2 x3 x4 → p3 x0 x1 x2 x3 x4 → p4 x0 x1 x2 x3 x4 → p5 x0 x1 x2 x3 x4 → p6 x0 x1 x2 x3 x4 → p7 x0 x1 x2 x3 x4 → p8 x0 x1 x2 x3 x4 → q) : q := h.elim fun x0 h => h.elim fun x1 h => h.elim fun x2 h => h.elim fun x3 h => h.elim fun x4 h => k x0 x1 x2 x3 x4 h.1 h.2.1 h.2.2.1 h.2.2.2.1 h.2.2.2.2.1 h.2.2.2.2.2.1 h.2.2.2.2.2.2.1 h.2.2.2.2.2.2.2.1 h.2.2.2.2.2.2.2.2
theorem xE6A0 {α0 : Sort u0} {α1 : Sort u1} {α2 : Sort u2} {α3 : Sort u3} {α4 : Sort u4} {α5 : Sort u5} {p0 : α0 → α1 → α2 → α3 → α4 → α5 → Prop} {q : Prop} (h : ∃ x0 x1 x2 x3 x4 x5, p0 x0 x1 x2 x3 x4 x5) (k : ∀ x0 x1 x2 x3 x4 x5, p0 x0 x1 x2 x3 x4 x5 → q) : q := h.elim fun x0 h => h.elim fun x1 h => h.elim fun x2 h => h.elim fun x3 h => h.elim fun x4 h => h.elim fun x5 h => k x0 x1 x2 x3 x4 x5 h
theorem xE6A1 {α0 : Sort u0} {α1 : Sort u1} {α2 : Sort u2} {α3 : Sort u3} {α4 : Sort u4} {α5 : Sort u5} {p0 p1 : α0 → α1 → α2 → α3 → α4 → α5 → Prop} {q : Prop} (h : ∃ x0 x1 x2 x3 x4 x5, p0 x0 x1 x2 x3 x4 x5 ∧ p1 x0 x1 x2 x3 x4 x5) (k : ∀ x0 x1 x2 x3 x4 x5, p0 x0 x1 x2 x3 x4 x5 → p1 x0 x1 x2 x3 x4 x5 → q) : q := h.elim fun x0 h => h.elim fun x1 h => h.elim fun x2 h => h.elim fun x3 h => h.elim fun x4 h => h.elim fun x5 h => k x0 x1 x2 x3 x4 x5 h.1 h.2
theorem xE6A5 {α0 : Sort u0} {α1 : Sort u1} {α2 : Sort u2} {α3 : Sort u3} {α4 : Sort u4} {α5 : Sort u5} {p0 p1 p2 p3 p4 p5 : α0 → α1 → α2 → α3 → α4 → α5 → Prop} {q : Prop} (h : ∃ x0 x1 x2 x3 x4 x5, p0 x0 x1 x2 x3 x4 x5 ∧ p1 x0 x1 x2 x3 x4 x5 ∧ p2 x0 x1 x2 x3 x4 x5 ∧ p3 x0 x1 x2 x3 x4 x5 ∧ p4 x0 x1 x2 x3 x4 x5 ∧ p5 x0 x1 x2 x3 x4 x5) (k : ∀ x0 x1 x2 x3 x4 x5, p0 x0 x1 x2 x3 x4 x5 → p1 x0 x1 x2 x3 x4 x5 → p2 x0 x1 x2 x3 x4 x5 → p3 x0 x1 x2 x3 x4 x5 → p4 x0 x1 x2 x3 x4 x5 → p5 x0 x1 x2 x3 x4 x5 → q) : q := h.elim fun x0 h => h.elim fun x1 h => h.elim fun x2 h => h.elim fun x3 h => h.elim fun x4 h => h.elim fun x5 h => k x0 x1 x2 x3 x4 x5 h.1 h.2.1 h.2.2.1 h.2.2.2.1 h.2.2.2.2.1 h.2.2.2.2.2

/-! ### abstract values -/
inductive V where
  | none
  | bool (b : Bool)
  | int (i : Int)
  | str (s : Str)
  | tup (vs : List V)
  | ref (a : Addr)

noncomputable abbrev tupObj (items : Array Value) (n : Nat) : Obj := { cls := .type "tuple", data := .seq items n }
noncomputable abbrev excObj (Cl t : Addr) (d : Option Addr) : Obj := { cls := .ref Cl, dict := d, data := .fields #[.ref t, .none, .none, .none, .bool false, .none] }
noncomputable abbrev lstObj (items : Array Value) (n : Nat) : Obj := { cls := .type "list", data := .seq items n }

mutual
inductive Rep (h : Heap) : Value → V → Prop
  | none : Rep h .none .none
  | bool (b) : Rep h (.bool b) (.bool b)
  | int (i t) : Rep h (.int i t) (.int i)
  | str (x t) : Rep h (.str x t) (.str x)
  | ref (a) : Rep h (.ref a) (.ref a)
  | tup {a items n vs} : h.get? a = some (tupObj items n) → Reps h items.toList vs → Rep h (.ref a) (.tup vs)
inductive Reps (h : Heap) : List Value → List V → Prop
  | nil : Reps h [] []
  | cons {v vs x xs} : Rep h v x → Reps h vs xs → Reps h (v :: vs) (x :: xs)
end

/-- what stays from one heap to another, but at N -/
noncomputable def Keeps (N : Addr → Prop) (h h' : Heap) : Prop := ∀ b o, h.get? b = some o → ¬ N b → h'.get? b = some o
noncomputable def NoTup (N : Addr → Prop) (h : Heap) : Prop := ∀ b, N b → ∀ o, h.get? b = some o → o.cls = .type "tuple" → ∀ items n, o.data ≠ .seq items n

theorem Rep.keep {N : Addr → Prop} {h h' : Heap} (k : Keeps N h h') (nt : NoTup N h) {v : Value} {x : V} (r : Rep h v x) : Rep h' v x :=
  Rep.rec (motive_1 := fun v x _ => Rep h' v x) (motive_2 := fun vs xs _ => Reps h' vs xs) .none (fun b => .bool b) (fun i t => .int i t) (fun s t => .str s t) (fun a => .ref a)
    (fun e _ ih => .tup (k _ _ e fun hn => nt _ hn _ e rfl _ _ rfl) ih) .nil (fun _ _ ia ib => .cons ia ib) r
theorem Reps.keep {N : Addr → Prop} {h h' : Heap} (k : Keeps N h h') (nt : NoTup N h) {v : List Value} {x : List V} (r : Reps h v x) : Reps h' v x := by
  induction x generalizing v with
  | nil => cases r; exact .nil
  | cons y ys ih => cases r with | cons a b => exact .cons (Rep.keep k nt a) (ih b)

theorem Reps.length {h : Heap} {vs : List Value} {xs : List V} (r : Reps h vs xs) : vs.length = xs.length := by
  induction xs generalizing vs with
  | nil => cases r; rfl
  | cons x xs ih => cases r with | cons a r => exact congrArg (· + 1) (ih r)
theorem Reps.get {h : Heap} {vs : List Value} {xs : List V} (r : Reps h vs xs) {i : Nat} {x : V} (e : xs[i]? = some x) : ∃ v, vs[i]? = some v ∧ Rep h v x := by
  induction xs generalizing vs i with
  | nil => cases e
  | cons y ys ih =>
    cases r with
    | cons a r =>
      cases i with
      | zero => obtain rfl := Option.some.inj e; exact ⟨_, rfl, a⟩
      | succ i => exact ih r e
theorem Reps.append {h : Heap} {vs ws : List Value} {xs ys : List V} (r : Reps h vs xs) (b : Reps h ws ys) : Reps h (vs ++ ws) (xs ++ ys) := by
  induction xs generalizing vs with
  | nil => cases r; exact b
  | cons x xs ih => cases r with | cons a r => exact .cons a (ih r)
theorem Reps.set {h : Heap} {vs : List Value} {xs : List V} (r : Reps h vs xs) {i : Nat} {v : Value} {x : V} (e : Rep h v x) : Reps h (vs.set i v) (xs.set i x) := by
  induction xs generalizing vs i with
  | nil => cases r; exact .nil
  | cons y ys ih =>
    cases r with
    | cons a r =>
      cases i with
      | zero => exact .cons e r
      | succ i => exact .cons a (ih r)
theorem Reps.take {h : Heap} {vs : List Value} {xs : List V} (r : Reps h vs xs) (i : Nat) : Reps h (vs.take i) (xs.take i) := by
  induction xs generalizing vs i with
  | nil => cases r; rw [List.take_nil, List.take_nil]; exact .nil
  | cons y ys ih =>
    cases r with
    | cons a r =>
      cases i with
      | zero => exact .nil
      | succ i => exact .cons a (ih r i)
theorem Reps.drop {h : Heap} {vs : List Value} {xs : List V} (r : Reps h vs xs) (i : Nat) : Reps h (vs.drop i) (xs.drop i) := by
  induction xs generalizing vs i with
  | nil => cases r; rw [List.drop_nil, List.drop_nil]; exact .nil
  | cons y ys ih =>
    cases r with
    | cons a r =>
      cases i with
      | zero => exact .cons a r
      | succ i => exact ih r i

noncomputable def RepOpt (h : Heap) : Option Value → Option V → Prop
  | none, none => True
  | some v, some x => Rep h v x
  | _, _ => False
theorem RepOpt.keep {N : Addr → Prop} {h h' : Heap} (k : Keeps N h h') (nt : NoTup N h) {v : Option Value} {x : Option V} (r : RepOpt h v x) : RepOpt h' v x := by
  cases v <;> cases x <;> first | exact r | exact Rep.keep k nt r
theorem RepOpt.isSome {h : Heap} {v : Option Value} {x : V} (r : RepOpt h v (some x)) : ∃ u, v = .some u ∧ Rep h u x := by
  cases v with
  | none => exact r.elim
  | some u => exact ⟨u, rfl, r⟩
theorem RepOpt.isNone {h : Heap} {v : Option Value} (r : RepOpt h v none) : v = .none := by
  cases v with
  | none => rfl
  | some u => exact r.elim

/-! ### abstract objects -/
inductive AO where
  | list (vs : List V)
  | dictI (f : Int → Option V) (n : Nat)
  | dictS (f : Str → Option V) (n : Nat)
  | dictT (f : List Int → Option V) (n : Nat)
  | set (f : Int → Bool) (n : Nat)
  | inst (C d : Addr)
  | exc (C t : Addr) (d : Option Addr)
  | raw (o : Obj)
  | ns (f : Str → Option V) (n : Nat)

noncomputable abbrev Sg := Addr → Option AO
noncomputable def upd (σ : Sg) (a : Addr) (o : AO) : Sg := fun b => if b = a then some o else σ b
theorem upd_same (σ : Sg) (a : Addr) (o : AO) : upd σ a o a = some o := by simp [upd]
theorem upd_ne (σ : Sg) {a b : Addr} (o : AO) (h : b ≠ a) : upd σ a o b = σ b := by simp [upd, h]

set_option genInjectivity false in
set_option genSizeOf false in
/-- what never changes during the call -/
structure Cx where
  prog : Program
  w : World
  K : Frag
  p : Program
  loose : List Str
  mg : Str → Option Value
  mb : Str → Option Value
  h₀ : Heap
  kin : K.In h₀
  top : TopRead p loose mg mb h₀
  sys : ∃ o, h₀.get? sysModules = some o

noncomputable def IsNs (h : Heap) (a : Addr) (f : Str → Option V) (n : Nat) : Prop :=
  ∃ es ep, h.get? a = some (dictOf es ep) ∧ (∀ e ∈ es, ∃ k t, e.key = .str k t) ∧ es.length ≤ n ∧ ∀ x, RepOpt h ((es.find? (·.key.isStr x)).map (·.val)) (f x)

noncomputable abbrev IK (C : Cx) := PySem.intKind C.prog C.w
noncomputable abbrev SK (C : Cx) := PySem.strKind C.prog C.w
noncomputable abbrev TK (C : Cx) := PySem.tupleKind (PySem.intKind C.prog C.w)

noncomputable def RepO (C : Cx) (h : Heap) (a : Addr) : AO → Prop
  | .list vs => ∃ items n, h.get? a = some (lstObj items n) ∧ Reps h items.toList vs
  | .dictI f n => ∃ g, h.MapOf (IK C) a g ∧ h.DictLe a n ∧ ∀ k, RepOpt h (g k) (f k)
  | .dictS f n => ∃ g, h.MapOf (SK C) a g ∧ h.DictLe a n ∧ ∀ k, RepOpt h (g k) (f k)
  | .dictT f n => ∃ xs, h.DictOfH (TK C) a xs ∧ xs.length ≤ n ∧ ∀ k, RepOpt h ((atKey xs k).map (·.2)) (f k)
  | .set f n => ∃ m, m ≤ n ∧ h.SetOf (IK C) a f m
  | .inst Cl d => h.get? a = some (instObj Cl d)
  | .exc Cl t d => h.get? a = some (excObj Cl t d)
  | .raw o => h.get? a = some o ∧ ∃ es ep, o.data = .dict es ep
  | .ns f n => IsNs h a f n

theorem RepO.obj {C : Cx} {h : Heap} {a : Addr} {o : AO} (r : RepO C h a o) : ∃ ob, h.get? a = some ob ∧ (ob.cls = .type "tuple" → ∀ items n, ob.data ≠ .seq items n) := by
  have D : ∀ {o es ep}, h.get? a = some o → o.data = .dict es ep → ∃ ob, h.get? a = some ob ∧ (ob.cls = .type "tuple" → ∀ items n, ob.data ≠ .seq items n) := fun e d => ⟨_, e, fun _ _ _ q => nomatch d.symm.trans q⟩
  have T : ∀ {o : Obj}, h.get? a = some o → o.cls ≠ .type "tuple" → ∃ ob, h.get? a = some ob ∧ (ob.cls = .type "tuple" → ∀ items n, ob.data ≠ .seq items n) := fun e n => ⟨_, e, fun c => absurd c n⟩
  cases o with
  | list vs => exact r.elim fun i r => r.elim fun m r => T r.1 fun q => absurd (Value.type.inj q) (by decide)
  | dictI f k => exact r.elim fun g r => xE3A2 r.1 fun o es ep e _ y => D e y.1
  | dictS f k => exact r.elim fun g r => xE3A2 r.1 fun o es ep e _ y => D e y.1
  | dictT f k => exact r.elim fun g r => xE3A2 r.1 fun o es ep e _ y => D e y.1
  | set f k => exact r.elim fun m r => xE4A2 r.2 fun o es ep t e _ y => ⟨o, e, fun _ _ _ q => nomatch y.1.symm.trans q⟩
  | inst Cl d => exact T r fun q => nomatch q
  | exc Cl t d => exact T r fun q => nomatch q
  | raw o => exact r.2.elim fun es q => q.elim fun ep q => D r.1 q
  | ns f k => exact xE2A1 r fun es ep e _ => D e rfl
theorem RepO.noTup {C : Cx} {h : Heap} {a : Addr} {o : AO} (r : RepO C h a o) : ∀ ob, h.get? a = some ob → ob.cls = .type "tuple" → ∀ items n, ob.data ≠ .seq items n := fun ob e hc items n hd =>
  xE1A1 r.obj fun o e' k => have q := Option.some.inj (e'.symm.trans e); k ((congrArg Obj.cls q).trans hc) items n ((congrArg Obj.data q).trans hd)
theorem RepO.there {C : Cx} {h : Heap} {a : Addr} {o : AO} (r : RepO C h a o) : ∃ ob, h.get? a = some ob := r.obj.elim fun o q => ⟨o, q.1⟩
theorem IsNs.keep {h h' : Heap} {a : Addr} {f : Str → Option V} {n : Nat} {N : Addr → Prop} (k : Keeps N h h') (nt : NoTup N h) (ha : ¬ N a) (r : IsNs h a f n) : IsNs h' a f n := by
  refine xE2A3 r fun es ep e hk hl hf => ?_
  try clear r
  exact ⟨es, ep, k _ _ e ha, hk, hl, fun x => (hf x).keep k nt⟩

theorem RepO.keep {C : Cx} {h h' : Heap} {a : Addr} {o : AO} {N : Addr → Prop} (k : Keeps N h h') (nt : NoTup N h) (ha : ¬ N a) (r : RepO C h a o) : RepO C h' a o := by
  cases o with
  | list vs => exact r.elim fun i r => r.elim fun m r => ⟨i, m, k _ _ r.1 ha, r.2.keep k nt⟩
  | dictI f n => exact r.elim fun g r => xE3A2 r.1 fun o es ep e r1 r2 => ⟨g, ⟨o, es, ep, k _ _ e ha, r1, r2⟩, r.2.1.of_same e (k _ _ e ha), fun x => (r.2.2 x).keep k nt⟩
  | dictS f n => exact r.elim fun g r => xE3A2 r.1 fun o es ep e r1 r2 => ⟨g, ⟨o, es, ep, k _ _ e ha, r1, r2⟩, r.2.1.of_same e (k _ _ e ha), fun x => (r.2.2 x).keep k nt⟩
  | dictT f n =>
    exact r.elim fun xs r => xE3A5 r.1 fun o es ep e r1 r2 r3 r4 r5 => ⟨xs, ⟨o, es, ep, k _ _ e ha, r1, r2, r3, fun x hx => xE3A3 (r4 x hx) fun o' items n' e' c' d' i' => ⟨o', items, n', k _ _ e' (fun hn => nt _ hn _ e' c' _ _ d'), c', d', i'⟩, r5⟩, r.2.1, fun x => (r.2.2 x).keep k nt⟩
  | set f n => exact r.elim fun m r => xE4A1 r.2 fun o es ep t e r1 => ⟨m, r.1, o, es, ep, t, k _ _ e ha, r1⟩
  | inst Cl d => exact k _ _ r ha
  | exc Cl t d => exact k _ _ r ha
  | raw o => exact ⟨k _ _ r.1 ha, r.2⟩
  | ns f n => exact IsNs.keep k nt ha r

/-! ### the state -/
noncomputable abbrev Loc := Str → Option V
noncomputable def setL (loc : Loc) (x : Str) (v : V) : Loc := fun y => if y = x then some v else loc y

structure At (C : Cx) (h : Heap) (σ : Sg) : Prop where
  keep : ∀ b o, C.h₀.get? b = some o → h.get? b = some o
  objs : ∀ a o, σ a = some o → RepO C h a o
  new : ∀ a o, σ a = some o → C.h₀.get? a = none

/-- the addresses that a frame owns -/
noncomputable def Own (env : Env) (b : Addr) : Prop := b = env.locals ∨ ∃ x, env.cells.lookup x = some b

structure Fo (C : Cx) (h : Heap) (σ : Sg) (env : Env) (loc : Loc) : Prop where
  kind : env.scope.kind = .function
  glob : env.globals = mainGlobals
  bi : env.builtins = builtinsNs
  vars : ∃ m, h.Ns env.locals m ∧ ∀ x v, loc x = some v → env.kindOf x = some .local → ∃ val, m x = some val ∧ Rep h val v
  cell : ∀ x c, env.cells.lookup x = some c → ∃ o cv, h.get? c = some o ∧ o.data = .cell cv ∧
    ∀ v, loc x = some v → (env.kindOf x = some .cell ∨ env.kindOf x = some .free) → ∃ val, cv = some val ∧ Rep h val v
  has : ∀ x, env.kindOf x = some .cell ∨ env.kindOf x = some .free → ∃ c, env.cells.lookup x = some c
  nodup : ∀ x y c, env.cells.lookup x = some c → env.cells.lookup y = some c → x = y
  new : ∀ b, Own env b → C.h₀.get? b = none ∧ σ b = none

/-- one piece of the run: what is not in σ and not owned stays -/
structure Stp (N : Addr → Prop) (s : Shared) (σ : Sg) (s' : Shared) (σ' : Sg) : Prop where
  keep : ∀ b o, s.heap.get? b = some o → σ b = none → ¬ N b → s'.heap.get? b = some o
  there : ∀ b o, s.heap.get? b = some o → ∃ o', s'.heap.get? b = some o'
  dom : ∀ b o, s.heap.get? b = some o → σ b = none → σ' b = none
  gens : s'.gens = s.gens
  os : s'.os = s.os

theorem Stp.refl (N : Addr → Prop) (s : Shared) (σ : Sg) : Stp N s σ s σ := ⟨fun _ _ e _ _ => e, fun _ o e => ⟨o, e⟩, fun _ _ _ h => h, rfl, rfl⟩
theorem Stp.trans {N : Addr → Prop} {s s' s'' : Shared} {σ σ' σ'' : Sg} (x : Stp N s σ s' σ') (y : Stp N s' σ' s'' σ'') : Stp N s σ s'' σ'' :=
  ⟨fun b o e h n => y.keep b o (x.keep b o e h n) (x.dom b o e h) n, fun b o e => (x.there b o e).elim fun o' e' => y.there b o' e',
    fun b o e h => (x.there b o e).elim fun o' e' => y.dom b o' e' (x.dom b o e h), y.gens.trans x.gens, y.os.trans x.os⟩
theorem Stp.wide {N N' : Addr → Prop} {s s' : Shared} {σ σ' : Sg} (x : Stp N s σ s' σ') (h : ∀ b, N b → N' b) : Stp N' s σ s' σ' :=
  ⟨fun b o e z n => x.keep b o e z fun q => n (h b q), x.there, x.dom, x.gens, x.os⟩
/-- fewer objects are told -/
theorem Stp.forget {N : Addr → Prop} {s s' : Shared} {σ σ' σ'' : Sg} (x : Stp N s σ s' σ') (h : ∀ a o, σ'' a = some o → σ' a = some o) : Stp N s σ s' σ'' := by
  refine ⟨x.keep, x.there, fun b o e z => ?_, x.gens, x.os⟩
  cases q : σ'' b with
  | none => rfl
  | some o' => exact nomatch (x.dom b o e z).symm.trans (h b o' q)
theorem Stp.fresh {N : Addr → Prop} {s s' : Shared} {σ σ' : Sg} (x : Stp N s σ s' σ') : s.heap.get? s'.heap.objs.size = none := by
  cases q : s.heap.get? s'.heap.objs.size with
  | none => rfl
  | some o => exact (x.there _ o q).elim fun o' e => absurd (Heap.lt_size e) (Nat.lt_irrefl _)
noncomputable def Nil : Addr → Prop := fun _ => False
theorem At.forget {C : Cx} {h : Heap} {σ σ' : Sg} (x : At C h σ) (hs : ∀ a o, σ' a = some o → σ a = some o) : At C h σ' :=
  ⟨x.keep, fun a o e => x.objs a o (hs a o e), fun a o e => x.new a o (hs a o e)⟩

theorem At.lt {C : Cx} {h : Heap} {σ : Sg} (x : At C h σ) {a : Addr} {o : AO} (e : σ a = some o) : a < h.objs.size := by
  refine xE1A0 ((x.objs a o e).there) fun ob e' => ?_
  exact Heap.lt_size e'
theorem At.fresh {C : Cx} {h : Heap} {σ : Sg} (x : At C h σ) : σ h.objs.size = none := by
  cases q : σ h.objs.size with
  | none => rfl
  | some o => exact absurd (x.lt q) (Nat.lt_irrefl _)
theorem At.base_lt {C : Cx} {h : Heap} {σ : Sg} (x : At C h σ) {a : Addr} {o : Obj} (e : C.h₀.get? a = some o) : a < h.objs.size := Heap.lt_size (x.keep a o e)
theorem At.base_new {C : Cx} {h : Heap} {σ : Sg} (x : At C h σ) : C.h₀.get? h.objs.size = none := by
  cases q : C.h₀.get? h.objs.size with
  | none => rfl
  | some o => exact absurd (x.base_lt q) (Nat.lt_irrefl _)
end Mine
end
section
set_option Elab.async false
set_option maxRecDepth 100000
set_option linter.unusedVariables false
namespace Mine
open PySem PySem.W

/-! ### steps of the state -/
theorem Stp.keeps {s s' : Shared} {σ σ' : Sg} (x : Stp Nil s σ s' σ') : Keeps (fun b => σ b ≠ none) s.heap s'.heap := fun b o e n => by
  refine x.keep b o e ?_ id
  cases q : σ b with
  | none => rfl
  | some o => exact absurd (show σ b ≠ none by rw [q]; exact fun z => nomatch z) n
theorem At.noTup {C : Cx} {h : Heap} {σ : Sg} (x : At C h σ) : NoTup (fun b => σ b ≠ none) h := fun b n o e hc items k => by
  cases q : σ b with
  | none => exact absurd q n
  | some ao => exact (x.objs b ao q).noTup o e hc items k
theorem Stp.rep {C : Cx} {s s' : Shared} {σ σ' : Sg} (x : Stp Nil s σ s' σ') (a : At C s.heap σ) {v : Value} {y : V} (r : Rep s.heap v y) : Rep s'.heap v y := r.keep x.keeps a.noTup
theorem Stp.reps {C : Cx} {s s' : Shared} {σ σ' : Sg} (x : Stp Nil s σ s' σ') (a : At C s.heap σ) {v : List Value} {y : List V} (r : Reps s.heap v y) : Reps s'.heap v y := r.keep x.keeps a.noTup

theorem Stp.toks (N : Addr → Prop) (s : Shared) (σ : Sg) (t : Nat) : Stp N s σ { s with toks := t } σ := ⟨fun _ _ e _ _ => e, fun _ o e => ⟨o, e⟩, fun _ _ _ h => h, rfl, rfl⟩

/-- a frame where the heap has grown or changed elsewhere -/
theorem Fo.keep {C : Cx} {h h' : Heap} {σ σ' : Sg} {env : Env} {loc : Loc} {N : Addr → Prop} (f : Fo C h σ env loc) (k : Keeps N h h') (nt : NoTup N h) (no : ∀ b, Own env b → ¬ N b)
    (hs : ∀ b, Own env b → σ' b = none) : Fo C h' σ' env loc := by
  refine ⟨f.kind, f.glob, f.bi, ?_, ?_, f.has, f.nodup, fun b hb => ⟨(f.new b hb).1, hs b hb⟩⟩
  · refine xE1A1 f.vars fun m hr1_ hm => ?_
    refine xE3A1 hr1_ fun o es ep e r => ?_
    try clear hr1_
    refine ⟨m, ⟨o, es, ep, k _ _ e (no _ (.inl rfl)), r⟩, fun x v hx hk => ?_⟩
    refine xE1A1 (hm x v hx hk) fun val e1 e2 => ?_
    exact ⟨val, e1, e2.keep k nt⟩
  · intro x c hc
    refine xE2A2 (f.cell x c hc) fun o cv e d r => ?_
    refine ⟨o, cv, k _ _ e (no _ (.inr ⟨x, hc⟩)), d, fun v hv hk => ?_⟩
    refine xE1A1 (r v hv hk) fun val e1 e2 => ?_
    exact ⟨val, e1, e2.keep k nt⟩
theorem Fo.lt {C : Cx} {h : Heap} {σ : Sg} {env : Env} {loc : Loc} (f : Fo C h σ env loc) {b : Addr} (hb : Own env b) : b < h.objs.size := by
  rcases hb with rfl | ⟨x, hx⟩
  · refine xE1A1 f.vars fun m hn _ => ?_
    exact hn.lt
  · refine xE2A1 (f.cell x b hx) fun o cv e _ => ?_
    exact Heap.lt_size e
theorem Fo.there {C : Cx} {h : Heap} {σ : Sg} {env : Env} {loc : Loc} (f : Fo C h σ env loc) {b : Addr} (hb : Own env b) : ∃ o, h.get? b = some o := by
  rcases hb with rfl | ⟨x, hx⟩
  · refine xE1A1 f.vars fun m hr2_ _ => ?_
    refine xE3A1 hr2_ fun o es ep e _ => ?_
    try clear hr2_
    exact ⟨o, e⟩
  · refine xE2A1 (f.cell x b hx) fun o cv e _ => ?_
    exact ⟨o, e⟩
theorem Fo.noTup {C : Cx} {h : Heap} {σ : Sg} {env : Env} {loc : Loc} (f : Fo C h σ env loc) : NoTup (Own env) h := by
  intro b hb o e hc items n hd
  rcases hb with rfl | ⟨x, hx⟩
  · refine xE1A1 f.vars fun m hr3_ _ => ?_
    refine xE3A2 hr3_ fun o' es ep e' d' _ => ?_
    try clear hr3_
    rw [e] at e'; cases e'; rw [hd] at d'; cases d'
  · refine xE2A2 (f.cell x b hx) fun o' cv e' d' _ => ?_
    rw [e] at e'; cases e'; rw [hd] at d'; cases d'
theorem Fo.step {C : Cx} {s s' : Shared} {σ σ' : Sg} {env : Env} {loc : Loc} (f : Fo C s.heap σ env loc) (a : At C s.heap σ) (x : Stp Nil s σ s' σ') : Fo C s'.heap σ' env loc :=
  f.keep x.keeps a.noTup (fun b hb n => n (f.new b hb).2) fun b hb => (f.there hb).elim fun o e => x.dom b o e (f.new b hb).2

/-- a new object that σ does not tell -/
theorem At.push {C : Cx} {h : Heap} {σ : Sg} (x : At C h σ) (o : Obj) : At C (h.push o) σ :=
  ⟨fun b o' e => Heap.get?_push_of_some _ (x.keep b o' e), fun a ao e => (x.objs a ao e).keep (N := fun _ => False) (fun b o' e' _ => Heap.get?_push_of_some _ e') (fun _ n => n.elim) id, x.new⟩
theorem Stp.push (N : Addr → Prop) (s : Shared) (σ : Sg) (o : Obj) (t : Nat) : Stp N s σ { s with heap := s.heap.push o, toks := t } σ :=
  ⟨fun _ _ e _ _ => Heap.get?_push_of_some _ e, fun _ o e => ⟨o, Heap.get?_push_of_some _ e⟩, fun _ _ _ h => h, rfl, rfl⟩
/-- a new object that σ tells -/
theorem At.pushA {C : Cx} {h : Heap} {σ : Sg} (x : At C h σ) (o : Obj) (ao : AO) (r : RepO C (h.push o) h.objs.size ao) : At C (h.push o) (upd σ h.objs.size ao) := by
  refine ⟨fun b o' e => Heap.get?_push_of_some _ (x.keep b o' e), fun a ao' e => ?_, fun a ao' e => ?_⟩
  · by_cases q : a = h.objs.size
    · subst q; rw [upd_same] at e; cases e; exact r
    · rw [upd_ne _ _ q] at e; exact (x.push o).objs a ao' e
  · by_cases q : a = h.objs.size
    · subst q; exact x.base_new
    · rw [upd_ne _ _ q] at e; exact x.new a ao' e
theorem Stp.pushA (N : Addr → Prop) (s : Shared) (σ : Sg) (o : Obj) (ao : AO) (t : Nat) : Stp N s σ { s with heap := s.heap.push o, toks := t } (upd σ s.heap.objs.size ao) :=
  ⟨fun _ _ e _ _ => Heap.get?_push_of_some _ e, fun _ o e => ⟨o, Heap.get?_push_of_some _ e⟩, fun b o' hb h => by rw [upd_ne _ _ (Nat.ne_of_lt (Heap.lt_size hb))]; exact h, rfl, rfl⟩
/-- a told object changed -/
theorem At.set {C : Cx} {h h' : Heap} {σ : Sg} {a : Addr} {ao ao' : AO} (x : At C h σ) (e : σ a = some ao) (hs : Heap.SameBut a h h') (r : RepO C h' a ao') : At C h' (upd σ a ao') := by
  refine ⟨fun b o eb => ?_, fun b bo eb => ?_, fun b bo eb => ?_⟩
  · refine (hs.2 b fun q => ?_).trans (x.keep b o eb)
    subst q; rw [x.new b ao e] at eb; cases eb
  · by_cases q : b = a
    · subst q; rw [upd_same] at eb; cases eb; exact r
    · rw [upd_ne _ _ q] at eb
      exact (x.objs b bo eb).keep (N := fun b => b = a) (fun b o e' n => (hs.2 b n).trans e') (fun b n o eo => by subst n; exact (x.objs _ _ e).noTup o eo) q
  · by_cases q : b = a
    · subst q; exact x.new b ao e
    · rw [upd_ne _ _ q] at eb; exact x.new b bo eb
theorem Stp.set {C : Cx} (N : Addr → Prop) (s : Shared) {σ : Sg} {h' : Heap} {a : Addr} {ao ao' : AO} (t : Nat) (e : σ a = some ao) (a' : At C h' (upd σ a ao')) (hs : Heap.SameBut a s.heap h') : Stp N s σ { s with heap := h', toks := t } (upd σ a ao') := by
  refine ⟨fun b o eb hb _ => (hs.2 b fun q => ?_).trans eb, fun b o eb => ?_, fun b o' hb h => ?_, rfl, rfl⟩
  · subst q; rw [e] at hb; cases hb
  · by_cases q : b = a
    · subst q; exact (a'.objs b ao' (upd_same ..)).there
    · exact ⟨o, (hs.2 b q).trans eb⟩
  · by_cases q : b = a
    · subst q; rw [e] at h; cases h
    · rw [upd_ne _ _ q]; exact h

/-! ### what is around -/
structure Rm where
  P : Around → Prop
  units : ∀ A, P A → A.units + 300 < cLine
  depth : ∀ A, P A → A.depth + 10 < recursionLimit
  handled : ∀ A, P A → A.handled = none

/-! ### the logic of expressions -/
noncomputable def WG {α β : Type} (C : Cx) (R : Rm) (env : Env) (loc : Loc) (rel : Heap → α → β → Prop) (t : Sem α) (P : β → Sg → Prop) (σ : Sg) : Prop :=
  ∀ (A : Around) (s : Shared) (Q : α → Shared → Prop) (E : Value → Shared → Prop), R.P A → At C s.heap σ → Fo C s.heap σ env loc →
    (∀ v x s' σ', rel s'.heap v x → At C s'.heap σ' → Stp Nil s σ s' σ' → P x σ' → Q v s') →
    wpAny (model C.prog C.w) A t Q E s

noncomputable abbrev WE (C : Cx) (R : Rm) (env : Env) (loc : Loc) (t : Sem Value) (P : V → Sg → Prop) (σ : Sg) : Prop := WG C R env loc Rep t P σ
/-- one way or the other -/
noncomputable abbrev Br (P Q : Sg → Prop) (b : Bool) (σ : Sg) : Prop := if b then P σ else Q σ
theorem br_t {P Q : Sg → Prop} {σ : Sg} (h : P σ) : Br P Q true σ := h
theorem br_ot {P Q : Sg → Prop} {σ : Sg} (h : Br P Q true σ) : P σ := h
theorem br_of {P Q : Sg → Prop} {σ : Sg} (h : Br P Q false σ) : Q σ := h
theorem br_f {P Q : Sg → Prop} {σ : Sg} (h : Q σ) : Br P Q false σ := h
noncomputable def eqR {α : Type} (_ : Heap) (a b : α) : Prop := a = b
noncomputable abbrev WB (C : Cx) (R : Rm) (env : Env) (loc : Loc) (t : Sem Bool) (P : Bool → Sg → Prop) (σ : Sg) : Prop := WG C R env loc eqR t P σ
noncomputable abbrev WL (C : Cx) (R : Rm) (env : Env) (loc : Loc) (t : Sem (List Value)) (P : List V → Sg → Prop) (σ : Sg) : Prop := WG C R env loc Reps t P σ

section
variable {C : Cx} {R : Rm} {env : Env} {loc : Loc} {σ : Sg}

theorem WG.mono {α β : Type} {rel : Heap → α → β → Prop} {t : Sem α} {P P' : β → Sg → Prop} (h : WG C R env loc rel t P σ) (hp : ∀ x σ', P x σ' → P' x σ') : WG C R env loc rel t P' σ :=
  fun A s Q E r a f k => h A s Q E r a f fun v x s' σ' e1 e2 e3 e4 => k v x s' σ' e1 e2 e3 (hp _ _ e4)

theorem W_Const_int {i : Int} {k : Nat} {pos : Pos} {P : V → Sg → Prop} (h : P (.int i) σ) : WE C R env loc (eval (.Constant (.int i) k pos) env) P σ :=
  fun A s Q E r a f q => wpAny_Constant_int (q _ _ { s with toks := s.toks + 1 } σ (.int _ _) a (.toks ..) h)
theorem W_Const_str {i : Str} {k : Nat} {pos : Pos} {P : V → Sg → Prop} (h : P (.str i) σ) : WE C R env loc (eval (.Constant (.str i) k pos) env) P σ :=
  fun A s Q E r a f q => Calls.Constant_str (q _ _ { s with toks := s.toks + 1 } σ (.str _ _) a (.toks ..) h)
theorem W_Const_bool {i : Bool} {k : Nat} {pos : Pos} {P : V → Sg → Prop} (h : P (.bool i) σ) : WE C R env loc (eval (.Constant (.bool i) k pos) env) P σ :=
  fun A s Q E r a f q => wpAny_pure (q _ _ s σ (.bool _) a (.refl ..) h)
theorem W_Const_none {k : Nat} {pos : Pos} {P : V → Sg → Prop} (h : P .none σ) : WE C R env loc (eval (.Constant .none k pos) env) P σ :=
  fun A s Q E r a f q => wpAny_pure (q _ _ s σ .none a (.refl ..) h)

theorem W_load {x : Str} {v : V} {P : V → Sg → Prop} (hv : loc x = some v) (hk : env.kindOf x = some .local) (h : P v σ) : WE C R env loc (loadName env x) P σ := by
  intro A s Q E r a f q
  refine xE1A1 f.vars fun m hn hm => ?_
  refine xE1A1 (hm x v hv hk) fun val e1 e2 => ?_
  exact wpAny_loadName_local f.kind hk hn e1 (q _ _ s σ e2 a (.refl ..) h)
theorem W_loadC {x : Str} {v : V} {P : V → Sg → Prop} (hv : loc x = some v) (hk : env.kindOf x = some .cell) (h : P v σ) : WE C R env loc (loadName env x) P σ := by
  intro A s Q E r a f q
  refine xE1A0 (f.has x (.inl hk)) fun c hc => ?_
  refine xE2A2 (f.cell x c hc) fun o cv e d hcv => ?_
  refine xE1A1 (hcv v hv (.inl hk)) fun val hr4_ e2 => ?_
  obtain rfl := hr4_
  exact wpAny_loadName_cell f.kind hk hc ⟨o, e, d⟩ (q _ _ s σ e2 a (.refl ..) h)
theorem W_Name {x : Str} {pos : Pos} {P : V → Sg → Prop} (h : WE C R env loc (loadName env x) P σ) (hd : (x == ("__debug__" : Str)) = false := by decide) : WE C R env loc (eval (.Name x pos) env) P σ :=
  fun A s Q E r a f q => wpAny_Name (h A s Q E r a f q) hd

theorem W_NameG {x : Str} {val : Value} {v : V} {pos : Pos} {P : V → Sg → Prop} (hv : nsIn C.K mainGlobals x = some (some val)) (hr : ∀ h, C.K.In h → Rep h val v) (hk : env.kindOf x = some .globalImplicit) (h : P v σ)
    (hd : (x == ("__debug__" : Str)) = false := by decide) : WE C R env loc (eval (.Name x pos) env) P σ := by
  intro A s Q E r a f q
  have X := C.kin.keeps a.keep
  have G : s.heap.Ns env.globals C.mg := by rw [f.glob]; exact C.top.g.keeps a.keep
  exact Calls.Name_function_global f.kind hk (Calls.loadGlobal_global G (mg_of C.kin C.top.g hv) (q _ _ s σ (hr _ X) a (.refl ..) h)) hd

/-! a name of the built-ins: its value as it is -/
theorem wp_NameB {A : Around} {s : Shared} {x : Str} {val : Value} {pos : Pos} {Q : Value → Shared → Prop} {E : Value → Shared → Prop} (a : At C s.heap σ) (f : Fo C s.heap σ env loc) (hv : nsIn C.K mainGlobals x = some none) (hb : bootBuiltins x = some val) (hn : x ≠ "__name__")
    (hk : env.kindOf x = some .globalImplicit) (h : Q val s) (hd : (x == ("__debug__" : Str)) = false := by decide) : wpAny (model C.prog C.w) A (eval (.Name x pos) env) Q E s := by
  have G : s.heap.Ns env.globals C.mg := by rw [f.glob]; exact C.top.g.keeps a.keep
  have B : s.heap.Ns env.builtins C.mb := by rw [f.bi]; exact C.top.b.keeps a.keep
  exact Calls.Name_function_global f.kind hk (Calls.loadGlobal_builtin G (mg_none_of C.kin C.top.g hv) B ((C.top.builtins x hn).trans hb) h) hd

/-! ### ints -/
theorem W_BinOp {l r : Expr} {op : Operator} {pos : Pos} {P : V → Sg → Prop}
    (h : WE C R env loc (eval l env) (fun x σ₁ => WE C R env loc (eval r env) (fun y σ₂ => ∀ u v, (∀ A s Q E, R.P A → At C s.heap σ₂ → Fo C s.heap σ₂ env loc → Rep s.heap u x → Rep s.heap v y →
      (∀ w z s' σ', Rep s'.heap w z → At C s'.heap σ' → Stp Nil s σ₂ s' σ' → P z σ' → Q w s') → wpAny (model C.prog C.w) A (binaryOp op u v) Q E s)) σ₁) σ) :
    WE C R env loc (eval (.BinOp l op r pos) env) P σ := by
  intro A s Q E r' a f k
  refine wpAny_BinOp (h A s _ E r' a f fun u x s₁ σ₁ e1 e2 e3 e4 => ?_)
  refine e4 A s₁ _ E r' e2 (f.step a e3) fun v y s₂ σ₂ z1 z2 z3 z4 => ?_
  have f1 := f.step a e3
  exact z4 u v A s₂ Q E r' z2 (f1.step e2 z3) (z3.rep e2 e1) z1 fun w z s' σ' q1 q2 q3 q4 => k w z s' σ' q1 q2 (e3.trans (z3.trans q3)) q4

/-- an operation on two values -/
noncomputable def OpV (C : Cx) (R : Rm) (env : Env) (loc : Loc) (t : Value → Value → Sem Value) (x y : V) (P : V → Sg → Prop) (σ : Sg) : Prop :=
  ∀ u v A s Q E, R.P A → At C s.heap σ → Fo C s.heap σ env loc → Rep s.heap u x → Rep s.heap v y →
      (∀ w z s' σ', Rep s'.heap w z → At C s'.heap σ' → Stp Nil s σ s' σ' → P z σ' → Q w s') → wpAny (model C.prog C.w) A (t u v) Q E s

theorem Rep.int_inv {h : Heap} {u : Value} {i : Int} (r : Rep h u (.int i)) : ∃ t, u = .int i t := by cases r; exact ⟨_, rfl⟩
theorem Rep.str_inv {h : Heap} {u : Value} {i : Str} (r : Rep h u (.str i)) : ∃ t, u = .str i t := by cases r; exact ⟨_, rfl⟩
theorem Rep.ref_inv {h : Heap} {u : Value} {a : Addr} (r : Rep h u (.ref a)) : u = .ref a := by cases r; rfl
theorem Reps.one {h : Heap} {vals : List Value} {x : V} (r : Reps h vals [x]) : ∃ u, vals = [u] ∧ Rep h u x := by
  cases r with | cons a b => cases b; exact ⟨_, rfl, a⟩
theorem Reps.two {h : Heap} {vals : List Value} {x y : V} (r : Reps h vals [x, y]) : ∃ u v, vals = [u, v] ∧ Rep h u x ∧ Rep h v y := by
  cases r with | cons a b => obtain ⟨v, rfl, c⟩ := b.one; exact ⟨_, v, rfl, a, c⟩
theorem Reps.three {h : Heap} {vals : List Value} {x y z : V} (r : Reps h vals [x, y, z]) : ∃ u v w, vals = [u, v, w] ∧ Rep h u x ∧ Rep h v y ∧ Rep h w z := by
  cases r with | cons a b => obtain ⟨v, w, rfl, c, d⟩ := b.two; exact ⟨_, v, w, rfl, a, c, d⟩
/-- then the other side, then the operation (no lambdas: so the terms are shared at every depth) -/
noncomputable abbrev OpK (C : Cx) (R : Rm) (env : Env) (loc : Loc) (t : Value → Value → Sem Value) (x : V) (P : V → Sg → Prop) (y : V) (σ₂ : Sg) : Prop := OpV C R env loc t x y P σ₂
noncomputable abbrev Kr (C : Cx) (R : Rm) (env : Env) (loc : Loc) (t : Value → Value → Sem Value) (r : Expr) (P : V → Sg → Prop) (x : V) (σ₁ : Sg) : Prop := WE C R env loc (eval r env) (OpK C R env loc t x P) σ₁
theorem Op_add {i j : Int} {P : V → Sg → Prop} (h : P (.int (i + j)) σ) : OpV C R env loc (binaryOp .Add) (.int i) (.int j) P σ := by
  intro u v A s Q E r a f hu hv k
  refine xE1A0 hu.int_inv fun _ hr5_ => ?_
  obtain rfl := hr5_
  refine xE1A0 hv.int_inv fun _ hr6_ => ?_
  obtain rfl := hr6_
  exact PySem.P.add_int (k _ _ { s with toks := s.toks + 1 } σ (.int _ _) a (.toks ..) h)
theorem Op_sub {i j : Int} {P : V → Sg → Prop} (h : P (.int (i - j)) σ) : OpV C R env loc (binaryOp .Sub) (.int i) (.int j) P σ := by
  intro u v A s Q E r a f hu hv k
  refine xE1A0 hu.int_inv fun _ hr7_ => ?_
  obtain rfl := hr7_
  refine xE1A0 hv.int_inv fun _ hr8_ => ?_
  obtain rfl := hr8_
  exact PySem.P.sub_int (k _ _ { s with toks := s.toks + 1 } σ (.int _ _) a (.toks ..) h)
theorem Op_iadd {i j : Int} {P : V → Sg → Prop} (h : P (.int (i + j)) σ) : OpV C R env loc (inplaceOp .Add) (.int i) (.int j) P σ := by
  intro u v A s Q E r a f hu hv k
  refine xE1A0 hu.int_inv fun _ hr9_ => ?_
  obtain rfl := hr9_
  refine xE1A0 hv.int_inv fun _ hr10_ => ?_
  obtain rfl := hr10_
  exact PySem.P.iadd_int (k _ _ { s with toks := s.toks + 1 } σ (.int _ _) a (.toks ..) h)
theorem Op_mul {i j : Int} {P : V → Sg → Prop} (hm : IntMulOk i j) (h : P (.int (i * j)) σ) : OpV C R env loc (binaryOp .Mult) (.int i) (.int j) P σ := by
  intro u v A s Q E r a f hu hv k
  refine xE1A0 hu.int_inv fun _ hr11_ => ?_
  obtain rfl := hr11_
  refine xE1A0 hv.int_inv fun _ hr12_ => ?_
  obtain rfl := hr12_
  exact PySem.P.mul_int (k _ _ { s with toks := s.toks + 1 } σ (.int _ _) a (.toks ..) h) hm
theorem Op_mod {i j : Int} {P : V → Sg → Prop} (hj : j ≠ 0) (h : P (.int (i.fmod j)) σ) : OpV C R env loc (binaryOp .Mod) (.int i) (.int j) P σ := by
  intro u v A s Q E r a f hu hv k
  refine xE1A0 hu.int_inv fun _ hr13_ => ?_
  obtain rfl := hr13_
  refine xE1A0 hv.int_inv fun _ hr14_ => ?_
  obtain rfl := hr14_
  exact PyProof.Rows.mod_int hj (k _ _ { s with toks := s.toks + 1 } σ (.int _ _) a (.toks ..) h)
theorem Op_fdiv {i j : Int} {P : V → Sg → Prop} (hj : j ≠ 0) (hp : Builtin.divisionGoesByPylong i j = false) (h : P (.int (i.fdiv j)) σ) : OpV C R env loc (binaryOp .FloorDiv) (.int i) (.int j) P σ := by
  intro u v A s Q E r a f hu hv k
  refine xE1A0 hu.int_inv fun _ hr15_ => ?_
  obtain rfl := hr15_
  refine xE1A0 hv.int_inv fun _ hr16_ => ?_
  obtain rfl := hr16_
  have k' := k _ _ { s with toks := s.toks + 1 } σ (.int (i.fdiv j) s.toks) a (.toks ..) h
  refine @PyProof.Rows.floordiv_int _ _ A E s i j _ _ Q hj k' ?_
  exact .inl hp
noncomputable def cmpB (op : CmpOp) (i j : Int) : Option Bool := match op with
  | .Eq => some (i == j) | .NotEq => some (i != j) | .Lt => some (decide (i < j)) | .LtE => some (decide (i ≤ j)) | .Gt => some (decide (i > j)) | .GtE => some (decide (i ≥ j)) | _ => none
theorem Op_cmp {op : CmpOp} {i j : Int} {b : Bool} {P : V → Sg → Prop} (hb : cmpB op i j = some b) (h : P (.bool b) σ) : OpV C R env loc (compareOp op) (.int i) (.int j) P σ := by
  intro u v A s Q E r a f hu hv k
  refine xE1A0 hu.int_inv fun _ hr17_ => ?_
  obtain rfl := hr17_
  refine xE1A0 hv.int_inv fun _ hr18_ => ?_
  obtain rfl := hr18_
  have k' := k _ _ s σ (.bool b) a (.refl ..) h
  match op, hb with
  | .Eq, hb => cases hb; exact PySem.P.eq_int k'
  | .NotEq, hb => cases hb; exact PySem.P.ne_int k'
  | .Lt, hb => cases hb; exact PySem.P.lt_int k'
  | .LtE, hb => cases hb; exact PySem.P.le_int k'
  | .Gt, hb => cases hb; exact PySem.P.gt_int k'
  | .GtE, hb => cases hb; exact PySem.P.ge_int k'

theorem W_Bin {l r : Expr} {op : Operator} {pos : Pos} {P : V → Sg → Prop}
    (h : WE C R env loc (eval l env) (Kr C R env loc (binaryOp op) r P) σ) : WE C R env loc (eval (.BinOp l op r pos) env) P σ :=
  W_BinOp (h.mono fun x σ₁ (h₁ : WE C R env loc (eval r env) _ σ₁) => h₁.mono fun y σ₂ (h₂ : OpV C R env loc (binaryOp op) x y P σ₂) => fun u v => h₂ u v)
theorem W_Cmp {l r : Expr} {op : CmpOp} {pos : Pos} {P : V → Sg → Prop}
    (h : WE C R env loc (eval l env) (Kr C R env loc (compareOp op) r P) σ) (hm : behindInMarks op r = false := by with_unfolding_all rfl) :
    WE C R env loc (eval (.Compare l [op] [r] pos) env) P σ := by
  intro A s Q E r' a f k
  refine wpAny_Compare1 (h A s _ E r' a f fun u x s₁ σ₁ e1 e2 e3 e4 => ?_) hm
  have f1 := f.step a e3
  refine e4 A s₁ _ E r' e2 f1 fun v y s₂ σ₂ z1 z2 z3 z4 => ?_
  exact z4 u v A s₂ Q E r' z2 (f1.step e2 z3) (z3.rep e2 e1) z1 fun w z s' σ' q1 q2 q3 q4 => k w z s' σ' q1 q2 (e3.trans (z3.trans q3)) q4

/-! ### tests -/
noncomputable def truthOf (σ : Sg) : V → Option Bool
  | .none => some false
  | .bool b => some b
  | .int i => some (i != 0)
  | .ref a => match σ a with
    | some (.list vs) => some (!vs.isEmpty)
    | _ => none
  | _ => none
noncomputable abbrev TB (P : Bool → Sg → Prop) (z : V) (σ' : Sg) : Prop := ∃ b, z = .bool b ∧ P b σ'
theorem W_testCmp {l r : Expr} {op : CmpOp} {pos : Pos} {whole : Sem Value} {P : Bool → Sg → Prop}
    (h : WE C R env loc (eval l env) (Kr C R env loc (compareOp op) r (TB P)) σ) (hm : behindInMarks op r = false := by with_unfolding_all rfl) :
    WB C R env loc (isTrue (.Compare l [op] [r] pos) env whole) P σ := by
  intro A s Q E r' a f k
  refine wpAny_isTrue_Compare1 (h A s _ E r' a f fun u x s₁ σ₁ e1 e2 e3 e4 => ?_) hm
  have f1 := f.step a e3
  refine e4 A s₁ _ E r' e2 f1 fun v y s₂ σ₂ z1 z2 z3 z4 => ?_
  refine z4 u v A s₂ _ E r' z2 (f1.step e2 z3) (z3.rep e2 e1) z1 fun w z s' σ' q1 q2 q3 q4 => ?_
  refine xE1A1 q4 fun b hr19_ hb => ?_
  try clear q4
  obtain rfl := hr19_
  cases q1
  exact wpAny_truthy_bool (k b b s' σ' rfl q2 (e3.trans (z3.trans q3)) hb)
noncomputable abbrev Nt (P : Bool → Sg → Prop) (b : Bool) (σ' : Sg) : Prop := P (!b) σ'
theorem W_testNot {e : Expr} {pos : Pos} {whole : Sem Value} {P : Bool → Sg → Prop} (h : WB C R env loc (isTrue e env (eval e env)) (Nt P) σ) :
    WB C R env loc (isTrue (.UnaryOp .Not e pos) env whole) P σ := by
  intro A s Q E r a f k
  show wpAny _ _ (isTrue e env (eval e env) >>= fun b => pure (!b)) _ _ _
  refine wpAny_bind (h A s _ E r a f fun u x s₁ σ₁ e1 e2 e3 e4 => ?_)
  cases e1
  exact wpAny_pure (k _ _ s₁ σ₁ rfl e2 e3 e4)
theorem W_testAnd {l r : Expr} {pos : Pos} {whole : Sem Value} {P : Bool → Sg → Prop}
    (h : WB C R env loc (isTrue l env (eval l env)) (Br (WB C R env loc (isTrue r env (eval r env)) P) (P false)) σ) :
    WB C R env loc (isTrue (.BoolOp .And [l, r] pos) env whole) P σ := by
  intro A s Q E r' a f k
  refine wpAny_isTrue_BoolOp (wpAny_allTrue_And_cons (h A s _ E r' a f fun u x s₁ σ₁ e1 e2 e3 e4 => ?_))
  cases e1
  cases u with
  | false => exact k _ _ s₁ σ₁ rfl e2 e3 e4
  | true =>
    refine wpAny_allTrue_And_cons (br_ot e4 A s₁ _ E r' e2 (f.step a e3) fun u x s₂ σ₂ z1 z2 z3 z4 => ?_)
    cases z1
    cases u with
    | false => exact k _ _ s₂ σ₂ rfl z2 (e3.trans z3) z4
    | true => exact wpAny_allTrue_And_nil (k _ _ s₂ σ₂ rfl z2 (e3.trans z3) z4)
theorem W_testOr {l r : Expr} {pos : Pos} {whole : Sem Value} {P : Bool → Sg → Prop}
    (h : WB C R env loc (isTrue l env (eval l env)) (Br (P true) (WB C R env loc (isTrue r env (eval r env)) P)) σ) :
    WB C R env loc (isTrue (.BoolOp .Or [l, r] pos) env whole) P σ := by
  intro A s Q E r' a f k
  refine wpAny_isTrue_BoolOp (wpAny_allTrue_Or_cons (h A s _ E r' a f fun u x s₁ σ₁ e1 e2 e3 e4 => ?_))
  cases e1
  cases u with
  | true => exact k _ _ s₁ σ₁ rfl e2 e3 e4
  | false =>
    refine wpAny_allTrue_Or_cons (br_of e4 A s₁ _ E r' e2 (f.step a e3) fun u x s₂ σ₂ z1 z2 z3 z4 => ?_)
    cases z1
    cases u with
    | true => exact k _ _ s₂ σ₂ rfl z2 (e3.trans z3) z4
    | false => exact wpAny_allTrue_Or_nil (k _ _ s₂ σ₂ rfl z2 (e3.trans z3) z4)
end
end Mine
end
section
set_option Elab.async false
set_option maxRecDepth 100000
set_option linter.unusedVariables false
namespace Mine
open PySem PySem.W

section
variable {C : Cx} {R : Rm} {env : Env} {loc : Loc} {σ : Sg}

/-! ### argument lists -/
theorem W_nil {pos : Pos} {P : List V → Sg → Prop} (h : P [] σ) : WL C R env loc (spliced (backTo pos (starEach [] env))) P σ :=
  fun A s Q E r a f k => Calls.spliced_nil (k _ _ s σ .nil a (.refl ..) h)
noncomputable abbrev Kx {α : Type} (x : α) (P : List α → Sg → Prop) (xs : List α) (σ₂ : Sg) : Prop := P (x :: xs) σ₂
noncomputable abbrev Kc (C : Cx) (R : Rm) (env : Env) (loc : Loc) (pos : Pos) (rest : List Expr) (P : List V → Sg → Prop) (x : V) (σ₁ : Sg) : Prop := WL C R env loc (spliced (backTo pos (starEach rest env))) (Kx x P) σ₁
theorem W_cons {e : Expr} {rest : List Expr} {pos : Pos} {P : List V → Sg → Prop}
    (h : WE C R env loc (eval e env) (Kc C R env loc pos rest P) σ)
    (he : starEach (e :: rest) env = (false, eval e env) :: starEach rest env := by rfl) :
    WL C R env loc (spliced (backTo pos (starEach (e :: rest) env))) P σ := by
  intro A s Q E r a f k
  rw [he]
  show wpAny _ _ (spliced ((false, eval e env) :: backTo pos (starEach rest env))) _ _ _
  refine Calls.spliced_cons (h A s _ E r a f fun v x s₁ σ₁ e1 e2 e3 e4 => ?_)
  refine e4 A s₁ _ E r e2 (f.step a e3) fun vs xs s₂ σ₂ z1 z2 z3 z4 => ?_
  exact k _ _ s₂ σ₂ (.cons (z3.rep e2 e1) z1) z2 (e3.trans z3) z4

theorem evalArgs_of {M : Model} {A : Around} {E : Value → Shared → Prop} {s : Shared} {f : Value} {Q : Args → Shared → Prop} : ∀ {l : List (Bool × Sem Value)}, l.any (·.1) = false →
    wpAny M A (spliced l) (fun vs s' => Q ⟨vs, []⟩ s') E s → wpAny M A (evalArgs f true l []) Q E s
  | [], _, h => by
    unfold evalArgs
    show wpAny M A (spliced [] >>= _) Q E s
    refine wpAny_bind (wpAny_mono h (fun vs s' h' => ?_) fun _ _ x => x)
    refine wpAny_holding ?_
    exact wpAny_bind (wpAny_pure (wpAny_bind (wpAny_pure (wpAny_pure h'))))
  | (false, x) :: r, _, h => Calls.evalArgs_plain h
  | (true, x) :: r, e, _ => by simp at e

/-- a call of a built-in function by its values -/
noncomputable def CallB (C : Cx) (R : Rm) (env : Env) (loc : Loc) (id : String) (xs : List V) (P : V → Sg → Prop) (σ : Sg) : Prop :=
  ∀ vals A s Q E, R.P A → At C s.heap σ → Fo C s.heap σ env loc → Reps s.heap vals xs →
    (∀ v x s' σ', Rep s'.heap v x → At C s'.heap σ' → Stp Nil s σ s' σ' → P x σ' → Q v s') → wpAny (model C.prog C.w) A (call (.builtin id) vals) Q E s

noncomputable def kindT : AO → String
  | .list _ => "list"
  | .set _ _ => "set"
  | .inst _ _ => ""
  | .exc _ _ _ => ""
  | .raw _ => ""
  | .ns _ _ => "dict"
  | _ => "dict"
theorem RepO.typeIs {s : Shared} {a : Addr} {ao : AO} {T : String} (r : RepO C s.heap a ao) (e : kindT ao = T) (h : T ≠ "") : s.TypeIs (.ref a) T := by
  subst e
  cases ao with
  | list vs => exact r.elim fun i r => r.elim fun m r => ⟨_, r.1, rfl⟩
  | dictI f k => exact r.elim fun g r => r.1.typeIs
  | dictS f k => exact r.elim fun g r => r.1.typeIs
  | dictT f k => exact r.elim fun g r => r.1.typeIs
  | set f k => exact r.elim fun m r => r.2.typeIs
  | inst Cl d => exact absurd rfl h
  | exc Cl t d => exact absurd rfl h
  | raw o => exact absurd rfl h
  | ns f k => exact xE2A1 r fun es ep e _ => ⟨_, e, rfl⟩
theorem RepO.noDict {h : Heap} {a : Addr} {ao : AO} {T : String} (r : RepO C h a ao) (e : kindT ao = T) (hT : T ≠ "") : ∀ b, Value.ref a = .ref b → ∃ ob, h.get? b = some ob ∧ ob.dict = none := by
  intro b hb
  obtain rfl := Value.ref.inj hb
  subst e
  cases ao with
  | list vs => exact r.elim fun i r => r.elim fun m r => ⟨_, r.1, rfl⟩
  | dictI f k => exact r.elim fun g r => xE3A2 r.1 fun o es ep e hc _ => ⟨_, e, hc.2.1⟩
  | dictS f k => exact r.elim fun g r => xE3A2 r.1 fun o es ep e hc _ => ⟨_, e, hc.2.1⟩
  | dictT f k => exact r.elim fun g r => xE3A2 r.1 fun o es ep e hc _ => ⟨_, e, hc.2.1⟩
  | set f k => exact r.elim fun m r => xE4A2 r.2 fun o es ep t e hc _ => ⟨_, e, hc.2.1⟩
  | inst Cl d => exact absurd rfl hT
  | exc Cl t d => exact absurd rfl hT
  | raw o => exact absurd rfl hT
  | ns f k => exact xE2A1 r fun es ep e _ => ⟨_, e, rfl⟩

noncomputable abbrev methEq (env : Env) (o : Expr) (name : Str) (ap pos : Pos) (args : List Expr) (pl : Sem Bool) : Prop :=
  eval (.Call (.Attribute o name ap) args [] pos) env = (do
      let ov ← eval o env
      standAt ap.atName
      let (f, first) ← holding [ov] (getMethod ov name pl)
      callWith pos f first (backTo pos (starEach args env)) (backToKw pos (keywordEach [] env)))

noncomputable abbrev Cb (C : Cx) (R : Rm) (env : Env) (loc : Loc) (id : String) (P : V → Sg → Prop) (xs : List V) (σ₂ : Sg) : Prop := CallB C R env loc id xs P σ₂
/-- what a method of a built-in object wants -/
noncomputable abbrev KB (C : Cx) (R : Rm) (env : Env) (loc : Loc) (T id : String) (pos : Pos) (args : List Expr) (P : V → Sg → Prop) (x : V) (σ₁ : Sg) : Prop :=
  ∃ a ao, x = .ref a ∧ σ₁ a = some ao ∧ kindT ao = T ∧ WL C R env loc (spliced (backTo pos (starEach args env))) (Kx (.ref a) (Cb C R env loc id P)) σ₁
theorem KB_i {T id : String} {pos : Pos} {args : List Expr} {P : V → Sg → Prop} {a : Addr} {ao : AO} (e : σ a = some ao) (k : kindT ao = T) (h : WL C R env loc (spliced (backTo pos (starEach args env))) (Kx (.ref a) (Cb C R env loc id P)) σ) : KB C R env loc T id pos args P (.ref a) σ :=
  ⟨a, ao, rfl, e, k, h⟩
theorem W_MethB {o : Expr} {name : Str} {ap pos : Pos} {args : List Expr} {id T : String} {pl : Sem Bool} {P : V → Sg → Prop} (pa : PlainAttrs T) (slot : Slot T name id) (hty : typeOf (.builtin id) = pure (.type "method_descriptor")) (hT : T ≠ "")
    (h : WE C R env loc (eval o env) (KB C R env loc T id pos args P) σ)
    (he : methEq env o name ap pos args pl := by rfl)
    (hplain : (backTo pos (starEach args env)).any (·.1) = false := by rfl) : WE C R env loc (eval (.Call (.Attribute o name ap) args [] pos) env) P σ := by
  intro A s Q E r a f k
  refine methodCall_KW (kws := []) (pl := pl) (h A s _ E r a f fun v x s₁ σ₁ e1 e2 e3 e4 => ?_) he
  refine xE2A3 e4 fun l ao hr1_ hl hk hw => ?_
  try clear e4
  obtain rfl := hr1_
  have f1 := f.step a e3
  cases e1
  have ro := e2.objs _ _ hl
  refine PySem.getMethod_builtin (ro.typeIs hk hT) pa slot hty (ro.noDict hk hT) ?_
  show wpAny _ _ (callWith pos (.builtin id) [.ref l] (backTo pos (starEach args env)) []) _ _ _
  refine Calls.callWith_builtin hplain (evalArgs_of hplain (hw A s₁ _ E r e2 f1 fun vs xs s₂ σ₂ z1 z2 z3 z4 => ?_))
  exact z4 _ A s₂ Q E r z2 (f1.step e2 z3) (.cons (.ref _) z1) fun v x s' σ' q1 q2 q3 q4 => k v x s' σ' q1 q2 (e3.trans (z3.trans q3)) q4

/-! ### methods of lists -/
theorem mapSeq_lst (f : Array Value → Array Value) (items : Array Value) (n : Nat) : Obj.mapSeq f (lstObj items n) = lstObj (f items) (if (f items).size == items.size then n else n + 1) := rfl
theorem At.list {h : Heap} {a : Addr} {vs : List V} (x : At C h σ) (e : σ a = some (.list vs)) : ∃ items n, h.get? a = some (lstObj items n) ∧ Reps h items.toList vs := x.objs a _ e
theorem list_upd {s : Shared} {a : Addr} {vs ws : List V} {items : Array Value} {n : Nat} (x : At C s.heap σ) (e : σ a = some (.list vs)) (he : s.heap.get? a = some (lstObj items n)) (f : Array Value → Array Value)
    (r : ∀ h', Keeps (fun b => b = a) s.heap h' → NoTup (fun b => b = a) s.heap → Reps h' (f items).toList ws) :
    At C (s.heap.update a (Obj.mapSeq f)) (upd σ a (.list ws)) ∧ ∀ t, Stp Nil s σ { s with heap := s.heap.update a (Obj.mapSeq f), toks := t } (upd σ a (.list ws)) := by
  have hs : Heap.SameBut a s.heap (s.heap.update a (Obj.mapSeq f)) := Heap.SameBut.update ..
  have hk : Keeps (fun b => b = a) s.heap (s.heap.update a (Obj.mapSeq f)) := fun b o eb n => (hs.2 b n).trans eb
  have nt : NoTup (fun b => b = a) s.heap := fun b n o eo => by subst n; exact (x.objs _ _ e).noTup o eo
  have hg : (s.heap.update a (Obj.mapSeq f)).get? a = some (lstObj (f items) (if (f items).size == items.size then n else n + 1)) := by rw [Heap.get?_update_self _ he rfl, mapSeq_lst]
  have x' := x.set (ao' := .list ws) e hs ⟨f items, _, hg, r _ hk nt⟩
  exact ⟨x', fun t => Stp.set Nil s t e x' hs⟩

theorem B_append {a : Addr} {vs : List V} {x : V} {P : V → Sg → Prop} (e : σ a = some (.list vs)) (hn : vs.length ≤ 100000) (h : P .none (upd σ a (.list (vs ++ [x])))) :
    CallB C R env loc "list.append" [.ref a, x] P σ := by
  intro vals A s Q E r at_ f hv k
  refine xE2A2 hv.two fun _ _ hr2_ h1 h2 => ?_
  obtain rfl := hr2_
  obtain rfl := h1.ref_inv
  · skip
    refine xE2A1 (at_.list e) fun items n he hr => ?_
    have hl : items.size ≤ sizeLine := by have := hr.length; rw [Array.length_toList] at this; rw [sizeLine_eq]; (first | lia | omega)
    have U := list_upd (ws := vs ++ [x]) at_ e he (·.push _) fun h' hk nt => by rw [Array.toList_push]; exact (hr.keep hk nt).append (.cons (h2.keep hk nt) .nil)
    refine PySem.call_meets F.slot_list_append ⟨_, he, rfl⟩ F.entry_list_append (F.args_list_append_2 _ _) (PySem.list_append _ items n _ hl) ⟨he, ?_⟩
    exact k _ _ _ _ .none U.1 (U.2 s.toks) h

theorem B_pop {a : Addr} {vs : List V} {x : V} {P : V → Sg → Prop} (e : σ a = some (.list (vs ++ [x]))) (hn : vs.length ≤ 100000) (h : P x (upd σ a (.list vs))) :
    CallB C R env loc "list.pop" [.ref a] P σ := by
  intro vals A s Q E r at_ f hv k
  refine xE1A1 hv.one fun _ hr3_ h1 => ?_
  obtain rfl := hr3_
  obtain rfl := h1.ref_inv
  · skip
    refine xE2A1 (at_.list e) fun items n he hr => ?_
    have hlen : items.size = vs.length + 1 := by have := hr.length; rw [Array.length_toList] at this; simpa using this
    have hl : items.size ≤ sizeLine := by rw [sizeLine_eq]; (first | lia | omega)
    obtain ⟨y, hy, hyr⟩ := hr.get (i := vs.length) (x := x) (by simp)
    have hy' : items[items.size - 1]? = some y := by rw [hlen, Nat.add_sub_cancel, ← Array.getElem?_toList]; exact hy
    have U := list_upd (ws := vs) at_ e he (fun xs => xs.eraseIdxIfInBounds (items.size - 1)) fun h' hk nt => by
      have : (items.eraseIdxIfInBounds (items.size - 1)).toList = items.toList.take vs.length := by
        rw [hlen, Nat.add_sub_cancel]
        simp [Array.eraseIdxIfInBounds, hlen, List.eraseIdx_eq_take_drop_succ]
      rw [this]
      have q := (hr.keep hk nt).take vs.length
      simpa using q
    refine PySem.call_meets F.slot_list_pop ⟨_, he, rfl⟩ F.entry_list_pop (F.args_list_pop_1 _) (PySem.MeetsSeq.list_pop_last _ items n y hy' hl) ⟨he, ?_⟩
    exact k _ _ _ _ (hyr.keep (N := fun b => b = a) (fun b o eb n => ((Heap.SameBut.update s.heap a _).2 b n).trans eb) (fun b n o eo => by subst n; exact (at_.objs _ _ e).noTup o eo)) U.1 (U.2 s.toks) h
end
end Mine
end
section
set_option Elab.async false
set_option maxRecDepth 100000
set_option linter.unusedVariables false
namespace Mine
open PySem PySem.W
open PyProof.Rows (subscriptTail)

section
variable {C : Cx} {R : Rm} {env : Env} {loc : Loc} {σ : Sg}

theorem At.notSys {h : Heap} (x : At C h σ) {a : Addr} {ao : AO} (e : σ a = some ao) : (a == sysModules) = false := by
  rw [beq_eq_false_iff_ne]
  rintro rfl
  refine xE1A0 C.sys fun o ho => ?_
  rw [x.new _ _ e] at ho; cases ho

/-! ### subscripts -/
theorem W_Sub {value slice : Expr} {pos : Pos} {P : V → Sg → Prop}
    (h : WE C R env loc (eval value env) (Kr C R env loc (subscriptTail value slice) slice P) σ) : WE C R env loc (eval (.Subscript value slice pos) env) P σ := by
  intro A s Q E r a f k
  refine PyProof.Rows.Subscript_ (h A s _ E r a f fun u x s₁ σ₁ e1 e2 e3 e4 => ?_)
  have f1 := f.step a e3
  refine e4 A s₁ _ E r e2 f1 fun v y s₂ σ₂ z1 z2 z3 z4 => ?_
  exact z4 u v A s₂ Q E r z2 (f1.step e2 z3) (z3.rep e2 e1) z1 fun w z s' σ' q1 q2 q3 q4 => k w z s' σ' q1 q2 (e3.trans (z3.trans q3)) q4

theorem O_sub_list {value slice : Expr} {a : Addr} {i : Int} {vs : List V} {x : V} {P : V → Sg → Prop} (e : σ a = some (.list vs)) (h0 : 0 ≤ i) (hi : i < 1000000) (hx : vs[i.toNat]? = some x) (h : P x σ)
    (hs : ∀ o i, subscripted slice false o i = operate [o, i] (getItem o i) := by intro _ _; with_unfolding_all rfl) : OpV C R env loc (subscriptTail value slice) (.ref a) (.int i) P σ := by
  intro u v A s Q E r at_ f hu hv k
  obtain rfl := hu.ref_inv
  refine xE1A0 hv.int_inv fun _ hr1_ => ?_
  obtain rfl := hr1_
  refine xE2A1 (at_.list e) fun items n he hr => ?_
  refine xE1A1 (hr.get hx) fun y hy hyr => ?_
  refine PyProof.Rows.tail_any (T := "list") ⟨_, he, rfl⟩ PySem.slot_list_getitem.lookup (PySem.wpAny_getItem_list ⟨_, he, rfl, n, rfl⟩ h0 (by (first | lia | omega)) (by rw [← Array.getElem?_toList]; exact hy) ?_) (hs _ _)
  exact k _ _ s σ hyr at_ (.refl ..) h
theorem O_sub_tup {value slice : Expr} {i : Int} {vs : List V} {x : V} {P : V → Sg → Prop} (h0 : 0 ≤ i) (hi : i < 1000000) (hx : vs[i.toNat]? = some x) (h : P x σ)
    (hs : ∀ o i, subscripted slice false o i = operate [o, i] (getItem o i) := by intro _ _; with_unfolding_all rfl) : OpV C R env loc (subscriptTail value slice) (.tup vs) (.int i) P σ := by
  intro u v A s Q E r at_ f hu hv k
  refine xE1A0 hv.int_inv fun _ hr2_ => ?_
  obtain rfl := hr2_
  cases hu with
  | tup he hr =>
    rename_i a items n
    refine xE1A1 (hr.get hx) fun y hy hyr => ?_
    have hlt : i.toNat < items.size := by
      have := (List.getElem?_eq_some_iff.mp hy).1
      rwa [Array.length_toList] at this
    refine PyProof.Rows.tail_any (T := "tuple") ⟨_, he, rfl⟩ PySem.F.slot_tuple_getitem.lookup (PyProof.Rows.getItem_tuple (j := i.toNat) ⟨_, he, rfl, n, rfl⟩ (by (first | lia | omega)) (by (first | lia | omega)) ?_ (by rw [← Array.getElem?_toList]; exact hy) ?_) (hs _ _)
    · unfold seqIndex?
      have h1 : ¬ i < 0 := by (first | lia | omega)
      simp only [h1, if_false]
      have h2 : i < items.size := by (first | lia | omega)
      simp [h1, h2]
    · exact k _ _ s σ hyr at_ (.refl ..) h
theorem O_sub_dictI {value slice : Expr} {a : Addr} {i : Int} {n : Nat} {g : Int → Option V} {x : V} {P : V → Sg → Prop} (e : σ a = some (.dictI g n)) (hx : g i = some x) (h : P x σ)
    (hs : ∀ o i, subscripted slice false o i = operate [o, i] (getItem o i) := by intro _ _; with_unfolding_all rfl) : OpV C R env loc (subscriptTail value slice) (.ref a) (.int i) P σ := by
  intro u v A s Q E r at_ f hu hv k
  obtain rfl := hu.ref_inv
  refine xE1A0 hv.int_inv fun _ hr3_ => ?_
  obtain rfl := hr3_
  refine xE1A2 (at_.objs a _ e) fun gg hm hl hf => ?_
  have hh := hf i
  rw [hx] at hh
  refine xE1A1 hh.isSome fun y hy hyr => ?_
  refine PyProof.Rows.tail_any (T := "dict") hm.typeIs PySem.slot_dict_getitem.lookup (PySem.wpAny_getItem_of (knd := IK C) (k := i) (intKind_is _ _ _ _) hm hy ?_) (hs _ _)
  exact k _ _ { s with toks := s.toks + 1 } σ hyr at_ (.toks ..) h

/-! ### methods of dicts and sets -/
theorem RepOpt.getD {h : Heap} {u : Option Value} {x : Option V} {d : Value} {y : V} (r : RepOpt h u x) (rd : Rep h d y) : Rep h (u.getD d) (x.getD y) := by
  cases u <;> cases x <;> first | exact rd | exact r | exact r.elim
theorem B_getI {a : Addr} {i : Int} {n : Nat} {g : Int → Option V} {d : V} {P : V → Sg → Prop} (e : σ a = some (.dictI g n)) (h : P ((g i).getD d) σ) : CallB C R env loc "dict.get" [.ref a, .int i, d] P σ := by
  intro vals A s Q E r at_ f hv k
  refine xE3A3 hv.three fun _ _ _ hr4_ h1 h2 h3 => ?_
  obtain rfl := hr4_
  obtain rfl := h1.ref_inv
  refine xE1A0 h2.int_inv fun _ hr5_ => ?_
  obtain rfl := hr5_
  · skip
    refine xE1A2 (at_.objs a _ e) fun gg hm hl hf => ?_
    refine call_meetsIn F.slot_dict_get hm.typeIs F.entry_dict_get (F.args_dict_get_3 _ _ _) (meets_dict_get_default (IK C) (k := i) a (intKind_is _ _ _ _) (at_.notSys e) _) ⟨gg, hm, ?_⟩
    exact k _ _ { s with toks := s.toks + 1 } σ ((hf i).getD h3) at_ (.toks ..) h
theorem B_getS {a : Addr} {i : Str} {n : Nat} {g : Str → Option V} {d : V} {P : V → Sg → Prop} (e : σ a = some (.dictS g n)) (h : P ((g i).getD d) σ) : CallB C R env loc "dict.get" [.ref a, .str i, d] P σ := by
  intro vals A s Q E r at_ f hv k
  refine xE3A3 hv.three fun _ _ _ hr6_ h1 h2 h3 => ?_
  obtain rfl := hr6_
  obtain rfl := h1.ref_inv
  refine xE1A0 h2.str_inv fun _ hr7_ => ?_
  obtain rfl := hr7_
  · skip
    refine xE1A2 (at_.objs a _ e) fun gg hm hl hf => ?_
    refine call_meetsIn F.slot_dict_get hm.typeIs F.entry_dict_get (F.args_dict_get_3 _ _ _) (meets_dict_get_default (SK C) (k := i) a (strKind_is _ _ _ _) (at_.notSys e) _) ⟨gg, hm, ?_⟩
    exact k _ _ { s with toks := s.toks + 1 } σ ((hf i).getD h3) at_ (.toks ..) h

theorem itemsAre {h : Heap} {vs : List Value} {ks : List Int} (r : Reps h vs (ks.map .int)) : ItemsAre (IK C) ks vs := by
  induction ks generalizing vs with
  | nil => cases r; exact .nil
  | cons i ks ih =>
    cases r with
    | cons a b => exact .cons (by cases a; exact intKind_is _ _ _ _) (ih b)
theorem tupleKey {h : Heap} {v : Value} {ks : List Int} (r : Rep h v (.tup (ks.map .int))) : ∃ t, v = .ref t ∧ (TK C).is h ks t := by
  cases r with
  | tup e r => exact ⟨_, rfl, _, _, _, e, rfl, rfl, itemsAre r⟩
theorem B_getT {a : Addr} {ks : List Int} {n : Nat} {g : List Int → Option V} {d : V} {P : V → Sg → Prop} (e : σ a = some (.dictT g n)) (h : P ((g ks).getD d) σ) : CallB C R env loc "dict.get" [.ref a, .tup (ks.map .int), d] P σ := by
  intro vals A s Q E r at_ f hv k
  refine xE3A3 hv.three fun _ _ _ hr8_ h1 h2 h3 => ?_
  obtain rfl := hr8_
  obtain rfl := h1.ref_inv
  · skip
    obtain ⟨t, rfl, hk⟩ := tupleKey (C := C) h2
    refine xE1A2 (at_.objs a _ e) fun xs hm hl hf => ?_
    have hu : (TK C).room A.in1 := by have := R.units A r; show A.units + 1 < cLine; (first | lia | omega)
    refine call_meetsIn F.slot_dict_get hm.typeIs F.entry_dict_get (F.args_dict_get_3 _ _ _) (meetsH_dict_get_default (TK C) a t (at_.notSys e) _) ⟨hu, ks, xs, hk, hm, ?_⟩
    exact k _ _ { s with toks := s.toks + (TK C).draws ks } σ ((hf ks).getD h3) at_ (.toks ..) h

theorem B_add {a : Addr} {i : Int} {n : Nat} {g : Int → Bool} {P : V → Sg → Prop} (e : σ a = some (.set g n)) (hn : n < 4000) (h : P .none (upd σ a (.set (fun j => g j || decide (j = i)) (n + 1)))) : CallB C R env loc "set.add" [.ref a, .int i] P σ := by
  intro vals A s Q E r at_ f hv k
  refine xE2A2 hv.two fun _ _ hr9_ h1 h2 => ?_
  obtain rfl := hr9_
  obtain rfl := h1.ref_inv
  refine xE1A0 h2.int_inv fun _ hr10_ => ?_
  obtain rfl := hr10_
  · skip
    refine xE1A1 (at_.objs a _ e) fun m hm1 hm => ?_
    refine call_set_add (knd := IK C) (k := i) (intKind_is _ _ _ _) rfl hm (by show m + 1 < scanBound; unfold scanBound; (first | lia | omega)) fun h' hs hS => ?_
    have hle : (if g i then m else m + 1) ≤ n + 1 := by split <;> (first | lia | omega)
    have ro : RepO C h' a (.set (fun j => g j || decide (j = i)) (n + 1)) := ⟨_, hle, hS⟩
    exact k _ _ { s with heap := h', toks := s.toks + 1 } _ .none (at_.set e hs ro) (Stp.set Nil s _ e (at_.set e hs ro) hs) h
end
end Mine
end
section
set_option Elab.async false
set_option maxRecDepth 100000
set_option linter.unusedVariables false
namespace Mine
open PySem PySem.W
open PyProof.Rows (subscriptTail)

section
variable {C : Cx} {R : Rm} {env : Env} {loc : Loc} {σ : Sg}

/-! ### fields of instances -/
/-- the class lets the field be read from the object's own dict -/
noncomputable def fldOk (K : Frag) (Cl : Addr) (name : Str) : Bool := plainGet K Cl name && hasDictIn K Cl && (match findIn K (.ref Cl) name with | some attr => noGet K attr | none => false)
noncomputable def stoOk (K : Frag) (Cl : Addr) (name : Str) : Bool := (findIn K (.ref Cl) "__setattr__" == some (some (.builtin "object.__setattr__"))) && plainOver K Cl && (takerIn K Cl name == some none) && hasDictIn K Cl

theorem Rep.handed {h : Heap} {v : Value} {x : V} (r : Rep h v x) : handedIn v = true := by cases r <;> rfl

theorem wp_getAttr {A : Around} {s : Shared} {a Cl d : Addr} {name : Str} {expr : Bool} {g : Str → Option V} {n : Nat} {x : V} {Q : Value → Shared → Prop} {E : Value → Shared → Prop} (at_ : At C s.heap σ) (e1 : σ a = some (.inst Cl d)) (e2 : σ d = some (.ns g n)) (hx : g name = some x)
    (hok : fldOk C.K Cl name = true) (h : ∀ v, Rep s.heap v x → Q v { s with toks := s.toks + 1 }) : wpAny (model C.prog C.w) A (getAttr (.ref a) name expr) Q E s := by
  have ha : s.heap.get? a = some (instObj Cl d) := at_.objs a _ e1
  refine xE2A3 (at_.objs d _ e2) fun es ep hd hk hl hf => ?_
  have X := C.kin.keeps at_.keep
  have hh := hf name
  rw [hx] at hh
  refine xE1A1 hh.isSome fun v hv hr => ?_
  unfold fldOk at hok
  simp only [Bool.and_eq_true] at hok
  refine xE0A1 hok fun hr1_ o3 => ?_
  try clear hok
  refine xE0A1 hr1_ fun o1 o2 => ?_
  try clear hr1_
  split at o3
  · rename_i attr hattr
    have I : InstAt s.heap a (instObj Cl d) Cl (some (dictOf es ep)) := ⟨ha, rfl, rfl, hd⟩
    refine get_value X I (plainGet_of o1).1 (findObj_own o2 hattr o3 ?_) hr.handed (h v hr)
    show getL name es = some (some v)
    unfold getL
    refine xE1A1 (Option.map_eq_some_iff.mp hv) fun en he hr2_ => ?_
    obtain rfl := hr2_
    rw [he]
  · cases o3

/-- what a field wants -/
noncomputable abbrev KA (C : Cx) (name : Str) (P : V → Sg → Prop) (x : V) (σ₁ : Sg) : Prop := ∃ a Cl d g n y, x = .ref a ∧ σ₁ a = some (.inst Cl d) ∧ σ₁ d = some (.ns g n) ∧ g name = some y ∧ fldOk C.K Cl name = true ∧ P y σ₁
theorem KA_i {name : Str} {P : V → Sg → Prop} {a Cl d : Addr} {g : Str → Option V} {n : Nat} {y : V} (e1 : σ a = some (.inst Cl d)) (e2 : σ d = some (.ns g n)) (e3 : g name = some y) (e4 : fldOk C.K Cl name = true) (h : P y σ) : KA C name P (.ref a) σ :=
  ⟨a, Cl, d, g, n, y, rfl, e1, e2, e3, e4, h⟩
theorem W_Attr {value : Expr} {name : Str} {pos : Pos} {P : V → Sg → Prop}
    (h : WE C R env loc (eval value env) (KA C name P) σ)
    (he : eval (.Attribute value name pos) env = (do
        let o ← eval value env
        standAt pos.atName
        let r ← holding [o] (getAttr o name true)
        letTemporaryGo value o r
        pure r) := by with_unfolding_all rfl) : WE C R env loc (eval (.Attribute value name pos) env) P σ := by
  intro A s Q E r at_ f k
  refine PyProof.Rows.Attribute_any_ (h A s _ E r at_ f fun u x s₁ σ₁ e1 e2 e3 e4 => ?_) he
  refine xE6A5 e4 fun a Cl d g n y hr3_ q1 q2 q3 q4 q5 => ?_
  try clear e4
  obtain rfl := hr3_
  cases e1
  exact wp_getAttr e2 q1 q2 q3 q4 fun v hv => k _ _ { s₁ with toks := s₁.toks + 1 } σ₁ hv e2 (e3.trans (.toks ..)) q5

theorem find_putL (name x : Str) (hs : Int) (t : Tok) (v : Value) : ∀ es : List DictEntry, (∀ e ∈ es, ∃ k t, e.key = .str k t) →
    ((putL name hs (.str name t) v es).find? (·.key.isStr x)).map (·.val) = if x = name then some v else (es.find? (·.key.isStr x)).map (·.val)
  | [], _ => by
    by_cases h : x = name
    · subst h; simp [putL, Value.isStr]
    · have : (Value.str name t).isStr x = false := by simp [Value.isStr, Ne.symm h]
      simp [putL, this, h]
  | e :: r, hk => by
    refine xE2A0 (hk e (.head _)) fun k u hku => ?_
    unfold putL
    by_cases q : e.key.isStr name = true
    · have hkn : k = name := by rw [hku] at q; simpa [Value.isStr] using q
      subst hkn
      rw [if_pos q]
      by_cases h : x = k
      · subst h; simp [q]
      · have : e.key.isStr x = false := by rw [hku]; simp [Value.isStr, Ne.symm h]
        simp [this, h]
    · rw [if_neg q]
      by_cases h : e.key.isStr x = true
      · have hkx : k = x := by rw [hku] at h; simpa [Value.isStr] using h
        subst hkx
        have hne : k ≠ name := by rintro rfl; exact q (by rw [hku]; simp [Value.isStr])
        simp [h, hne]
      · have ih := find_putL name x hs t v r fun e he => hk e (.tail _ he)
        simp only [List.find?_cons, h]
        exact ih
theorem putL_keys (name : Str) (hs : Int) (t : Tok) (v : Value) : ∀ es : List DictEntry, (∀ e ∈ es, ∃ k t, e.key = .str k t) → ∀ e ∈ putL name hs (.str name t) v es, ∃ k t, e.key = .str k t
  | [], _, e, he => by simp [putL] at he; subst he; exact ⟨_, _, rfl⟩
  | y :: r, hk, e, he => by
    unfold putL at he
    split at he
    · rcases List.mem_cons.mp he with rfl | he
      · exact hk y (.head _)
      · exact hk e (.tail _ he)
    · rcases List.mem_cons.mp he with rfl | he
      · exact hk _ (.head _)
      · exact putL_keys name hs t v r (fun e he => hk e (.tail _ he)) e he
theorem putL_len (name : Str) (hs : Int) (k v : Value) : ∀ es : List DictEntry, (putL name hs k v es).length ≤ es.length + 1
  | [] => by simp [putL]
  | y :: r => by
    unfold putL
    split
    · simp
    · have := putL_len name hs k v r; simp only [List.length_cons]; (first | lia | omega)

noncomputable def setF (g : Str → Option V) (x : Str) (v : V) : Str → Option V := fun y => if y = x then some v else g y

theorem wp_setAttr {A : Around} {s : Shared} {a Cl d : Addr} {name : Str} {g : Str → Option V} {n : Nat} {v : Value} {x : V} {Q : Unit → Shared → Prop} {E : Value → Shared → Prop} (at_ : At C s.heap σ) (e1 : σ a = some (.inst Cl d)) (e2 : σ d = some (.ns g n)) (hn : n < 500)
    (hok : stoOk C.K Cl name = true) (hv : Rep s.heap v x)
    (h : ∀ s', At C s'.heap (upd σ d (.ns (setF g name x) (n + 1))) → Stp Nil s σ s' (upd σ d (.ns (setF g name x) (n + 1))) → Q () s') : wpAny (model C.prog C.w) A (setAttr (.ref a) name v) Q E s := by
  have ha : s.heap.get? a = some (instObj Cl d) := at_.objs a _ e1
  refine xE2A3 (at_.objs d _ e2) fun es ep hd hk hl hf => ?_
  have X := C.kin.keeps at_.keep
  have I : InstAt s.heap a (instObj Cl d) Cl (some (dictOf es ep)) := ⟨ha, rfl, rfl, hd⟩
  unfold stoOk at hok
  simp only [Bool.and_eq_true, beq_iff_eq] at hok
  refine xE0A1 hok fun hr4_ o4 => ?_
  try clear hok
  refine xE0A1 hr4_ fun hr1_ o3 => ?_
  try clear hr4_
  obtain ⟨o1, o2⟩ := hr1_
  refine set_plain X I o1 (osa_open (s := { s with toks := s.toks + 1 }) X I o2 o3 fun b => ?_)
  refine xE1A1 (any_some o4) fun cd hc hd' => ?_
  refine wpAny_bind (wpAny_pure (wpAny_bind (wpAny_bind (wpAny_loadPart (s := { s with toks := s.toks + 1 }) ha (wpAny_bind ((looks_clsIn (M := model C.prog C.w) X hc) _ _ _ { s with toks := s.toks + 1 } (fun _ _ e => e) ?_))))))
  rw [hd']
  refine wpAny_pure (a := some d) (wpAny_bind (wpAny_pure (wpAny_bind ?_)))
  unfold nsSet
  refine wpAny_bind (wpAny_bind (wpAny_askSetting (wpAny_pure (wpAny_bind (wpAny_mkText (wpAny_bind (wpAny_loadPart (s := { s with toks := s.toks + 1 + 1 }) hd ?_)))))))
  dsimp only
  have hc : (!es.toArray.any (·.key.isStr name) && es.toArray.any (·.refKey)) = false := by
    have : es.toArray.any (·.refKey) = false := by
      rw [Array.any_eq_false']
      intro e he
      refine xE2A0 (hk e (by simpa using he)) fun k t q => ?_
      simp [DictEntry.refKey, q]
    rw [this, Bool.and_false]
  rw [aRefKeyMayBeTheName_at, hc]
  simp only [Bool.false_eq_true, if_false]
  refine wpAny_updatePart (s := { s with toks := s.toks + 1 + 1 }) hd ?_
  have hnew : (s.heap.update d (Obj.putName name (PyData.keyHash C.w.params name) (.str name (s.toks + 1)) v)).get? d = some (dictOf (putL name (PyData.keyHash C.w.params name) (.str name (s.toks + 1)) v es) (putN name es ep)) := by
    rw [Heap.get?_update_self _ hd (by rw [putName_dict]; rfl), putName_dict]
  have hlen := putL_len name (PyData.keyHash C.w.params name) (.str name (s.toks + 1)) v es
  refine wpAny_bind (wpAny_lookBehind (s := { s with heap := s.heap.update d (Obj.putName name (PyData.keyHash C.w.params name) (.str name (s.toks + 1)) v), toks := s.toks + 1 + 1 }) hnew (pastItsLine_dict (by rw [List.size_toArray, sizeLine_eq]; (first | lia | omega))) ?_)
  refine wpAny_pure ?_
  have hs : Heap.SameBut d s.heap (s.heap.update d (Obj.putName name (PyData.keyHash C.w.params name) (.str name (s.toks + 1)) v)) := Heap.SameBut.update ..
  have hkp : Keeps (fun b => b = d) s.heap (s.heap.update d (Obj.putName name (PyData.keyHash C.w.params name) (.str name (s.toks + 1)) v)) := fun b o eb n => (hs.2 b n).trans eb
  have nt : NoTup (fun b => b = d) s.heap := fun b n o eo => by subst n; exact (at_.objs _ _ e2).noTup o eo
  have ro : RepO C (s.heap.update d (Obj.putName name (PyData.keyHash C.w.params name) (.str name (s.toks + 1)) v)) d (.ns (setF g name x) (n + 1)) := by
    refine ⟨_, _, hnew, putL_keys _ _ _ _ _ hk, by (first | lia | omega), fun y => ?_⟩
    rw [find_putL _ _ _ _ _ _ hk]
    unfold setF
    by_cases q : y = name
    · rw [if_pos q, if_pos q]; exact hv.keep hkp nt
    · rw [if_neg q, if_neg q]; exact (hf y).keep hkp nt
  exact h { s with heap := _, toks := s.toks + 1 + 1 } (at_.set e2 hs ro) (Stp.set Nil s _ e2 (at_.set e2 hs ro) hs)
end
end Mine
end
section
set_option Elab.async false
set_option maxRecDepth 100000
set_option linter.unusedVariables false
namespace Mine
open PySem PySem.W
open PyProof.Rows (subscriptTail)

inductive Fl where
  | next | brk | cont
  | ret (v : V)
inductive RepFl (h : Heap) : Flow → Fl → Prop
  | next : RepFl h .next .next
  | brk : RepFl h .brk .brk
  | cont : RepFl h .cont .cont
  | ret {v x} : Rep h v x → RepFl h (.ret v) (.ret x)

set_option genInjectivity false in
set_option genSizeOf false in
/-- what is said where an exception leaves -/
structure XT (C : Cx) (R : Rm) (env : Env) where
  rel : Shared → Sg → Value → Shared → Prop
  nrel : Shared → Sg → Value → Shared → Prop
  pre : ∀ {s σ loc s1 σ1 e s'}, At C s.heap σ → Fo C s.heap σ env loc → Stp (Own env) s σ s1 σ1 → rel s1 σ1 e s' → rel s σ e s'
  note : ∀ {A s σ e s'} {E' : Value → Shared → Prop}, R.P A → rel s σ e s' → (∀ s'', nrel s σ e s'' → E' e s'') → notedBy (model C.prog C.w) A env E' e s'
  back : ∀ {A s σ e s'} {E' : Value → Shared → Prop}, R.P A → nrel s σ e s' → (∀ s'', rel s σ e s'' → E' e s'') → cameBackBy (model C.prog C.w) A env E' e s'
noncomputable def XT.no (C : Cx) (R : Rm) (env : Env) : XT C R env := ⟨fun _ _ _ _ => False, fun _ _ _ _ => False, fun _ _ _ h => h, fun _ h => h.elim, fun _ h => h.elim⟩

noncomputable def WS (C : Cx) (R : Rm) (env : Env) (X : XT C R env) (t : Sem Flow) (P : Fl → Loc → Sg → Prop) (loc : Loc) (σ : Sg) : Prop :=
  ∀ (A : Around) (s : Shared) (Q : Flow → Shared → Prop) (E : Value → Shared → Prop), R.P A → At C s.heap σ → Fo C s.heap σ env loc →
    (∀ f fl s' loc' σ', RepFl s'.heap f fl → At C s'.heap σ' → Fo C s'.heap σ' env loc' → Stp (Own env) s σ s' σ' → P fl loc' σ' → Q f s') →
    (∀ e s', X.rel s σ e s' → E e s') → wpAny (model C.prog C.w) A t Q E s

section
variable {C : Cx} {R : Rm} {env : Env} {X : XT C R env} {loc : Loc} {σ : Sg} {P : Fl → Loc → Sg → Prop}

theorem Stp.own {s s' : Shared} {σ' : Sg} (x : Stp Nil s σ s' σ') : Stp (Own env) s σ s' σ' := x.wide fun _ n => n.elim
theorem Stp.transO {s s' s'' : Shared} {σ' σ'' : Sg} {loc' : Loc} (x : Stp (Own env) s σ s' σ') (f : Fo C s'.heap σ' env loc') (y : Stp (Own env) s' σ' s'' σ'') : Stp (Own env) s σ s'' σ'' := x.trans y

theorem WS.mono {t : Sem Flow} {P' : Fl → Loc → Sg → Prop} (h : WS C R env X t P loc σ) (hp : ∀ fl l s, P fl l s → P' fl l s) : WS C R env X t P' loc σ :=
  fun A s Q E r a f k kx => h A s Q E r a f (fun f fl s' loc' σ' e1 e2 e3 e4 e5 => k f fl s' loc' σ' e1 e2 e3 e4 (hp _ _ _ e5)) kx

theorem S_nil (h : P .next loc σ) : WS C R env X (execs [] env) P loc σ := fun A s Q E r a f k kx => wpAny_execs_nil (k _ _ s loc σ .next a f (.refl ..) h)
/-- what is to come behind a statement -/
noncomputable abbrev Nx {C : Cx} {R : Rm} {env : Env} (X : XT C R env) (rest : List Stmt) (P : Fl → Loc → Sg → Prop) (fl : Fl) (loc' : Loc) (σ' : Sg) : Prop := match fl with | .next => WS C R env X (execs rest env) P loc' σ' | fl => P fl loc' σ'
/-- what is to come behind a loop's turn -/
noncomputable abbrev Lp (I : Loc → Sg → Prop) (P : Fl → Loc → Sg → Prop) (fl : Fl) (l : Loc) (s : Sg) : Prop := match fl with | .next | .cont => I l s | .brk => P .next l s | .ret v => P (.ret v) l s
noncomputable abbrev Dn (I : Nat → Loc → Sg → Prop) (n : Nat) (l : Loc) (s : Sg) : Prop := ∃ m, m < n ∧ I m l s
theorem S_cons {st : Stmt} {rest : List Stmt} (h : WS C R env X (exec st env) (Nx X rest P) loc σ) : WS C R env X (execs (st :: rest) env) P loc σ := by
  intro A s Q E r a f k kx
  refine wpAny_execs_cons (h A s _ E r a f (fun fw fl s' loc' σ' e1 e2 e3 e4 e5 => ?_) kx)
  cases e1 with
  | next => exact e5 A s' Q E r e2 e3 (fun fw fl s'' loc'' σ'' z1 z2 z3 z4 z5 => k fw fl s'' loc'' σ'' z1 z2 z3 (e4.transO e3 z4) z5) fun e s'' q => kx e s'' (X.pre a f e4 q)
  | brk => exact k _ _ s' loc' σ' .brk e2 e3 e4 e5
  | cont => exact k _ _ s' loc' σ' .cont e2 e3 e4 e5
  | ret h => exact k _ _ s' loc' σ' (.ret h) e2 e3 e4 e5

/-- a store into a local name -/
theorem Fo.store {s : Shared} {h' : Heap} {x : Str} {v : Value} {y : V} (a : At C s.heap σ) (f : Fo C s.heap σ env loc) (hk : env.kindOf x = some .local) (hv : Rep s.heap v y)
    {m : Str → Option Value} (hn : s.heap.Ns env.locals m) (hm : ∀ x v, loc x = some v → env.kindOf x = some .local → ∃ val, m x = some val ∧ Rep s.heap val v)
    (hn' : h'.Ns env.locals (fun z => if z = x then some v else m z)) (hs : Heap.SameBut env.locals s.heap h') (t : Nat) :
    At C h' σ ∧ Fo C h' σ env (setL loc x y) ∧ Stp (Own env) s σ { s with heap := h', toks := t } σ := by
  have hL := f.new env.locals (.inl rfl)
  have hkp : Keeps (fun b => b = env.locals) s.heap h' := fun b o eb n => (hs.2 b n).trans eb
  have nt : NoTup (fun b => b = env.locals) s.heap := fun b n o eo => by subst n; exact f.noTup _ (.inl rfl) o eo
  refine ⟨⟨fun b o eb => (hs.2 b fun q => ?_).trans (a.keep b o eb), fun b ao eb => (a.objs b ao eb).keep hkp nt fun q => ?_, a.new⟩, ⟨f.kind, f.glob, f.bi, ⟨_, hn', fun z w hz hkz => ?_⟩, fun z c hc => ?_, f.has, f.nodup, f.new⟩, ⟨fun b o eb hb n => (hs.2 b fun q => n (.inl q)).trans eb, fun b o eb => ?_, fun _ _ _ h => h, rfl, rfl⟩⟩
  · subst q; rw [hL.1] at eb; cases eb
  · subst q; rw [hL.2] at eb; cases eb
  · unfold setL at hz
    by_cases q : z = x
    · subst q; rw [if_pos rfl] at hz; cases hz; exact ⟨v, by simp, hv.keep hkp nt⟩
    · rw [if_neg q] at hz
      refine xE1A1 (hm z w hz hkz) fun val e1 e2 => ?_
      exact ⟨val, by simp [q, e1], e2.keep hkp nt⟩
  · refine xE2A2 (f.cell z c hc) fun o cv e d hcv => ?_
    have hne : c ≠ env.locals := by
      rintro rfl
      refine xE3A2 hn fun o' es ep e' d' _ => ?_
      try clear hn
      rw [e] at e'; cases e'; rw [d] at d'; cases d'
    refine ⟨o, cv, (hs.2 c hne).trans e, d, fun w hw hkz => ?_⟩
    unfold setL at hw
    have q : z ≠ x := by rintro rfl; rcases hkz with hkz | hkz <;> rw [hk] at hkz <;> cases hkz
    rw [if_neg q] at hw
    refine xE1A1 (hcv w hw hkz) fun val e1 e2 => ?_
    exact ⟨val, e1, e2.keep hkp nt⟩
  · by_cases q : b = env.locals
    · subst q; obtain ⟨o', es, ep, e', _⟩ := hn'; exact ⟨o', e'⟩
    · exact ⟨o, (hs.2 b q).trans eb⟩

/-- a store into a cell -/
theorem Fo.storeC {s : Shared} {h' : Heap} {x : Str} {c : Addr} {v : Value} {y : V} (a : At C s.heap σ) (f : Fo C s.heap σ env loc) (hk : env.kindOf x = some .cell) (hc : env.cells.lookup x = some c) (hv : Rep s.heap v y)
    (hn' : h'.IsCell c (some v)) (hs : Heap.SameBut c s.heap h') :
    At C h' σ ∧ Fo C h' σ env (setL loc x y) ∧ Stp (Own env) s σ { s with heap := h' } σ := by
  have hL := f.new c (.inr ⟨x, hc⟩)
  have hkp : Keeps (fun b => b = c) s.heap h' := fun b o eb n => (hs.2 b n).trans eb
  have nt : NoTup (fun b => b = c) s.heap := fun b n o eo => by subst n; exact f.noTup _ (.inr ⟨x, hc⟩) o eo
  have hne : env.locals ≠ c := by
    rintro q
    refine xE2A2 (f.cell x c hc) fun o cv e d _ => ?_
    refine Classical.byContradiction fun hG => ?_
    refine xE1A1 f.vars fun m hr1_ _ => ?_
    refine xE3A2 hr1_ fun o' es ep e' d' _ => ?_
    try clear hr1_
    refine hG ?_
    clear hG
    rw [q, e] at e'; cases e'; rw [d] at d'; cases d'
  refine ⟨⟨fun b o eb => (hs.2 b fun q => ?_).trans (a.keep b o eb), fun b ao eb => (a.objs b ao eb).keep hkp nt fun q => ?_, a.new⟩, ⟨f.kind, f.glob, f.bi, ?_, fun z c' hc' => ?_, f.has, f.nodup, f.new⟩, ⟨fun b o eb hb n => (hs.2 b fun q => n (.inr ⟨x, q ▸ hc⟩)).trans eb, fun b o eb => ?_, fun _ _ _ h => h, rfl, rfl⟩⟩
  · subst q; rw [hL.1] at eb; cases eb
  · subst q; rw [hL.2] at eb; cases eb
  · refine Classical.byContradiction fun hG => ?_
    refine xE1A1 f.vars fun m hr2_ hm => ?_
    refine xE3A1 hr2_ fun o' es ep e' r' => ?_
    try clear hr2_
    refine hG ?_
    clear hG
    refine ⟨m, ⟨o', es, ep, (hs.2 _ hne).trans e', r'⟩, fun z w hz hkz => ?_⟩
    unfold setL at hz
    have q : z ≠ x := by rintro rfl; rw [hk] at hkz; cases hkz
    rw [if_neg q] at hz
    refine xE1A1 (hm z w hz hkz) fun val e1 e2 => ?_
    exact ⟨val, e1, e2.keep hkp nt⟩
  · by_cases q : z = x
    · subst q
      rw [hc] at hc'; cases hc'
      refine xE1A1 hn' fun o' e' d' => ?_
      try clear hn'
      refine ⟨o', _, e', d', fun w hw _ => ?_⟩
      unfold setL at hw; rw [if_pos rfl] at hw; cases hw
      exact ⟨v, rfl, hv.keep hkp nt⟩
    · refine xE2A2 (f.cell z c' hc') fun o cv e d hcv => ?_
      have hcc : c' ≠ c := fun z' => q (f.nodup z x c' hc' (z' ▸ hc))
      refine ⟨o, cv, (hs.2 c' hcc).trans e, d, fun w hw hkz => ?_⟩
      unfold setL at hw; rw [if_neg q] at hw
      refine xE1A1 (hcv w hw hkz) fun val e1 e2 => ?_
      exact ⟨val, e1, e2.keep hkp nt⟩
  · by_cases q : b = c
    · subst q; obtain ⟨o', e', _⟩ := hn'; exact ⟨o', e'⟩
    · exact ⟨o, (hs.2 b q).trans eb⟩

theorem wp_store {A : Around} {s : Shared} {x : Str} {v : Value} {y : V} {Q : Unit → Shared → Prop} {E : Value → Shared → Prop} (a : At C s.heap σ) (f : Fo C s.heap σ env loc) (hk : env.kindOf x = some .local ∨ env.kindOf x = some .cell) (hv : Rep s.heap v y)
    (h : ∀ s', At C s'.heap σ → Fo C s'.heap σ env (setL loc x y) → Stp (Own env) s σ s' σ → (∀ w z, Rep s.heap w z → Rep s'.heap w z) → Q () s') : wpAny (model C.prog C.w) A (storeName env x v) Q E s := by
  rcases hk with hk | hk
  · refine xE1A1 f.vars fun m hn hm => ?_
    refine wpAny_storeName_local hk hn (fun h' hn' hs => ?_) (by rw [f.kind]; rfl)
    refine xE0A2 (Fo.store a f hk hv hn hm hn' hs (s.toks + 1)) fun a1 f1 s1 => ?_
    refine h { s with heap := h', toks := s.toks + 1 } a1 f1 s1 fun w z hw => hw.keep (N := fun b => b = env.locals) (fun b o eb n => (hs.2 b n).trans eb) fun b n o eo => by subst n; exact f.noTup _ (.inl rfl) o eo
  · refine Classical.byContradiction fun hG => ?_
    refine xE1A0 (f.has x (.inl hk)) fun c hc => ?_
    refine xE2A2 (f.cell x c hc) fun o cv e d hcv => ?_
    refine hG ?_
    clear hG
    refine wpAny_storeName_cell f.kind hk hc ⟨o, e, d⟩ fun h' hn' hs => ?_
    refine xE0A2 (Fo.storeC a f hk hc hv hn' hs) fun a1 f1 s1 => ?_
    refine h { s with heap := h' } a1 f1 s1 fun w z hw => hw.keep (N := fun b => b = c) (fun b o eb n => (hs.2 b n).trans eb) fun b n o eo => by subst n; exact f.noTup _ (.inr ⟨x, hc⟩) o eo

noncomputable abbrev KAs (P : Fl → Loc → Sg → Prop) (loc : Loc) (x : Str) (y : V) (σ' : Sg) : Prop := P .next (setL loc x y) σ'
noncomputable abbrev KRe (P : Fl → Loc → Sg → Prop) (loc : Loc) (y : V) (σ' : Sg) : Prop := P (.ret y) loc σ'
theorem S_Assign {x : Str} {pos' pos : Pos} {value : Expr} (hk : env.kindOf x = some .local ∨ env.kindOf x = some .cell) (h : WE C R env loc (eval value env) (KAs P loc x) σ)
    (hs : swapsWith value (some (.Name x pos')) pos.line env = pure false := by rfl) : WS C R env X (exec (.Assign [.Name x pos'] value pos) env) P loc σ := by
  intro A s Q E r a f k kx
  refine wpAny_Assign_Name (h A s _ E r a f fun v y s₁ σ₁ e1 e2 e3 e4 => ?_) hs
  have f1 := f.step a e3
  exact wp_store e2 f1 hk e1 fun s' a' f' st _ => k _ _ s' _ σ₁ .next a' f' (e3.own.transO f1 st) e4

theorem S_If {test : Expr} {body orelse : List Stmt} {pos : Pos} (h : WB C R env loc (isTrue test env (eval test env)) (Br (WS C R env X (execs body env) P loc) (WS C R env X (execs orelse env) P loc)) σ) :
    WS C R env X (exec (.If test body orelse pos) env) P loc σ := by
  intro A s Q E r a f k kx
  refine wpAny_If (h A s _ E r a f fun b b' s₁ σ₁ e1 e2 e3 e4 => ?_)
  cases e1
  have f1 := f.step a e3
  cases b
  · exact br_of e4 A s₁ Q E r e2 f1 (fun fw fl s'' loc'' σ'' z1 z2 z3 z4 z5 => k fw fl s'' loc'' σ'' z1 z2 z3 (e3.own.transO f1 z4) z5) fun e s'' q => kx e s'' (X.pre a f e3.own q)
  · exact br_ot e4 A s₁ Q E r e2 f1 (fun fw fl s'' loc'' σ'' z1 z2 z3 z4 z5 => k fw fl s'' loc'' σ'' z1 z2 z3 (e3.own.transO f1 z4) z5) fun e s'' q => kx e s'' (X.pre a f e3.own q)

theorem S_Return {e : Expr} {pos : Pos} (h : WE C R env loc (eval e env) (KRe P loc) σ) : WS C R env X (exec (.Return (some e) pos) env) P loc σ := by
  intro A s Q E r a f k kx
  exact wpAny_Return_some (h A s _ E r a f fun v y s₁ σ₁ e1 e2 e3 e4 => k _ _ s₁ loc σ₁ (.ret e1) e2 (f.step a e3) e3.own e4)
theorem S_ReturnNone {pos : Pos} (h : P (.ret .none) loc σ) : WS C R env X (exec (.Return none pos) env) P loc σ := by
  intro A s Q E r a f k kx
  exact wpAny_Return_none (k _ _ s loc σ (.ret .none) a f (.refl ..) h)
theorem S_Continue {pos : Pos} (h : P .cont loc σ) : WS C R env X (exec (.Continue pos) env) P loc σ := by
  intro A s Q E r a f k kx
  exact fun Γ p _ => k _ _ s loc σ .cont a f (.refl ..) h

noncomputable def V.plain : V → Bool
  | .ref _ => false
  | .tup _ => false
  | _ => true
noncomputable abbrev KEx (P : Fl → Loc → Sg → Prop) (loc : Loc) (y : V) (σ' : Sg) : Prop := y.plain = true ∧ P .next loc σ'
theorem S_Expr {e : Expr} {pos : Pos} (h : WE C R env loc (eval e env) (KEx P loc) σ) (hi : interactive env = false := by rfl) (hs : swapsWith e none pos.line env = pure false := by rfl) : WS C R env X (exec (.Expr e pos) env) P loc σ := by
  intro A s Q E r a f k kx
  refine wpAny_Expr (h A s _ E r a f fun v y s₁ σ₁ e1 e2 e3 e4 => ?_) hi hs
  refine xE0A1 e4 fun e41 e42 => ?_
  try clear e4
  have := k .next _ s₁ loc σ₁ .next e2 (f.step a e3) e3.own e42
  cases e1 <;> first | exact this | cases e41

/-- what a store into a field wants -/
noncomputable abbrev KS (C : Cx) (name : Str) (y : V) (P : Sg → Prop) (x : V) (σ₂ : Sg) : Prop := ∃ a Cl d g n, x = .ref a ∧ σ₂ a = some (.inst Cl d) ∧ σ₂ d = some (.ns g n) ∧ n < 500 ∧ stoOk C.K Cl name = true ∧ P (upd σ₂ d (.ns (setF g name y) (n + 1)))
theorem KS_i {name : Str} {y : V} {P : Sg → Prop} {a Cl d : Addr} {g : Str → Option V} {n : Nat} (e1 : σ a = some (.inst Cl d)) (e2 : σ d = some (.ns g n)) (e3 : Nat.ble (n + 1) 500 = true) (e4 : stoOk C.K Cl name = true) (h : P (upd σ d (.ns (setF g name y) (n + 1)))) : KS C name y P (.ref a) σ :=
  ⟨a, Cl, d, g, n, rfl, e1, e2, Nat.le_of_ble_eq_true e3, e4, h⟩
noncomputable abbrev KSa (C : Cx) (R : Rm) (env : Env) (loc : Loc) (o : Expr) (name : Str) (P : Fl → Loc → Sg → Prop) (y : V) (σ₁ : Sg) : Prop := WE C R env loc (eval o env) (KS C name y (P .next loc)) σ₁
theorem S_AssignAttr {o value : Expr} {name : Str} {pos' pos : Pos}
    (h : WE C R env loc (eval value env) (KSa C R env loc o name P) σ)
    (hs : swapsWith value (some (.Attribute o name pos')) pos.line env = pure false := by rfl) : WS C R env X (exec (.Assign [.Attribute o name pos'] value pos) env) P loc σ := by
  intro A s Q E r a f k kx
  refine plainObj_wpAny_Assign_Attribute (h A s _ E r a f fun v y s₁ σ₁ e1 e2 e3 e4 => ?_) hs
  have f1 := f.step a e3
  refine e4 A s₁ _ E r e2 f1 fun u x s₂ σ₂ z1 z2 z3 z4 => ?_
  refine Classical.byContradiction fun hG => ?_
  refine xE5A5 z4 fun ad Cl d g n hr3_ q1 q2 q3 q4 q5 => ?_
  try clear z4
  obtain rfl := hr3_
  refine hG ?_
  clear hG
  cases z1
  have f2 := f1.step e2 z3
  refine wp_setAttr z2 q1 q2 q3 q4 (z3.rep e2 e1) fun s' a' st => ?_
  exact k _ _ s' loc _ .next a' (f2.step z2 st) ((e3.trans (z3.trans st)).own) q5

/-- an item stored -/
noncomputable def SetV (C : Cx) (R : Rm) (env : Env) (loc : Loc) (o i v : V) (P : Sg → Prop) (σ : Sg) : Prop :=
  ∀ ov iv vv A s Q E, R.P A → At C s.heap σ → Fo C s.heap σ env loc → Rep s.heap ov o → Rep s.heap iv i → Rep s.heap vv v →
      (∀ s' σ', At C s'.heap σ' → Stp Nil s σ s' σ' → P σ' → Q () s') → wpAny (model C.prog C.w) A (setItem ov iv vv) Q E s

noncomputable abbrev KI3 (C : Cx) (R : Rm) (env : Env) (loc : Loc) (x y : V) (P : Sg → Prop) (z : V) (σ₃ : Sg) : Prop := SetV C R env loc x z y P σ₃
noncomputable abbrev KI2 (C : Cx) (R : Rm) (env : Env) (loc : Loc) (i : Expr) (y : V) (P : Sg → Prop) (x : V) (σ₂ : Sg) : Prop := WE C R env loc (eval i env) (KI3 C R env loc x y P) σ₂
noncomputable abbrev KI1 (C : Cx) (R : Rm) (env : Env) (loc : Loc) (o i : Expr) (P : Sg → Prop) (y : V) (σ₁ : Sg) : Prop := WE C R env loc (eval o env) (KI2 C R env loc i y P) σ₁
theorem S_AssignSub {o i value : Expr} {pos' pos : Pos}
    (h : WE C R env loc (eval value env) (KI1 C R env loc o i (P .next loc)) σ)
    (hs : swapsWith value (some (.Subscript o i pos')) pos.line env = pure false := by rfl) : WS C R env X (exec (.Assign [.Subscript o i pos'] value pos) env) P loc σ := by
  intro A s Q E r a f k kx
  refine wpAny_Assign_Subscript (h A s _ E r a f fun v y s₁ σ₁ e1 e2 e3 e4 => ?_) hs
  have f1 := f.step a e3
  refine e4 A s₁ _ E r e2 f1 fun u x s₂ σ₂ z1 z2 z3 z4 => ?_
  have f2 := f1.step e2 z3
  refine z4 A s₂ _ E r z2 f2 fun w z s₃ σ₃ q1 q2 q3 q4 => ?_
  have f3 := f2.step z2 q3
  refine q4 _ _ _ A s₃ _ E r q2 f3 (q3.rep z2 z1) q1 ((z3.trans q3).rep e2 e1) fun s' σ' a' st hp => ?_
  exact k _ _ s' loc σ' .next a' (f3.step q2 st) ((e3.trans (z3.trans (q3.trans st))).own) hp

theorem S_AugName {x : Str} {pos' pos : Pos} {op : Operator} {value : Expr} (hk : env.kindOf x = some .local) (h : WE C R env loc (loadName env x) (Kr C R env loc (inplaceOp op) value (KAs P loc x)) σ) :
    WS C R env X (exec (.AugAssign (.Name x pos') op value pos) env) P loc σ := by
  intro A s Q E r a f k kx
  refine wpAny_AugAssign_Name (h A s _ E r a f fun v y s₁ σ₁ e1 e2 e3 e4 => ?_)
  have f1 := f.step a e3
  refine e4 A s₁ _ E r e2 f1 fun u z s₂ σ₂ z1 z2 z3 z4 => ?_
  have f2 := f1.step e2 z3
  refine z4 _ _ A s₂ _ E r z2 f2 (z3.rep e2 e1) z1 fun w q s₃ σ₃ q1 q2 q3 q4 => ?_
  have f3 := f2.step z2 q3
  refine wp_store q2 f3 (.inl hk) q1 fun s' a' f' st _ => ?_
  exact k _ _ s' _ σ₃ .next a' f' ((e3.trans (z3.trans q3)).own.transO f3 st) q4

theorem S_AugSub {o i value : Expr} {tpos pos : Pos} {op : Operator}
    (h : WE C R env loc (eval o env) (fun x σ₁ => WE C R env loc (eval i env) (fun z σ₂ => OpV C R env loc getItem x z (fun old σ₃ => WE C R env loc (eval value env) (fun y σ₄ => OpV C R env loc (inplaceOp op) old y (fun w σ₅ => SetV C R env loc x z w (fun σ' => P .next loc σ') σ₅) σ₄) σ₃) σ₂) σ₁) σ)
    (hi : ∀ ov iv new, augStore i ov iv new = (do holding [new, ov, iv] (setItem ov iv new); release [new, ov, iv] []; pure .next) := by intros; rfl) :
    WS C R env X (exec (.AugAssign (.Subscript o i tpos) op value pos) env) P loc σ := by
  intro A s Q E r a f k kx
  refine wpAny_AugAssign_SubscriptAny (h A s _ E r a f fun v x s₁ σ₁ e1 e2 e3 e4 => ?_) hi
  have f1 := f.step a e3
  refine e4 A s₁ _ E r e2 f1 fun u z s₂ σ₂ z1 z2 z3 z4 => ?_
  have f2 := f1.step e2 z3
  refine z4 _ _ A s₂ _ E r z2 f2 (z3.rep e2 e1) z1 fun w old s₃ σ₃ q1 q2 q3 q4 => ?_
  have f3 := f2.step z2 q3
  refine q4 A s₃ _ E r q2 f3 fun yv y s₄ σ₄ p1 p2 p3 p4 => ?_
  have f4 := f3.step q2 p3
  refine p4 _ _ A s₄ _ E r p2 f4 (p3.rep q2 q1) p1 fun nv new s₅ σ₅ t1 t2 t3 t4 => ?_
  have f5 := f4.step p2 t3
  refine t4 _ _ _ A s₅ _ E r t2 f5 ((z3.trans (q3.trans (p3.trans t3))).rep e2 e1) ((q3.trans (p3.trans t3)).rep z2 z1) t1 fun s' σ' a' st hp => ?_
  exact k _ _ s' loc σ' .next a' (f5.step t2 st) ((e3.trans (z3.trans (q3.trans (p3.trans (t3.trans st))))).own) hp

theorem S_While {test : Expr} {body : List Stmt} {pos : Pos} (I : Nat → Loc → Sg → Prop) (n : Nat) (h0 : I n loc σ)
    (turn : ∀ J : Nat → Loc → Sg → Prop, (∀ {n l s}, I n l s → J n l s) → ∀ n loc' σ', I n loc' σ' → WB C R env loc' (isTrue test env (eval test env)) (Br (WS C R env X (execs body env) (Lp (Dn J n) P) loc') (P .next loc')) σ') : WS C R env X (exec (.While test body [] pos) env) P loc σ := by
  intro A s Q E r a f k kx
  obtain ⟨IV, hIV⟩ : ∃ IV : Nat → Shared → Prop, ∀ n s', IV n s' ↔ ∃ loc' σ', I n loc' σ' ∧ At C s'.heap σ' ∧ Fo C s'.heap σ' env loc' ∧ Stp (Own env) s σ s' σ' := ⟨_, fun _ _ => Iff.rfl⟩
  refine wpAny_While (codeAny_whileLoop IV ?_ n ((hIV _ _).mpr ⟨loc, σ, h0, a, f, .refl ..⟩))
  intro n s' hI
  refine xE2A3 ((hIV _ _).mp hI) fun loc' σ' hI a' f' st => ?_
  refine turn I id n loc' σ' hI A s' _ _ r a' f' fun b b' s₂ σ₂ e1 e2 e3 e4 => ?_
  cases e1
  have f2 := f'.step a' e3
  cases b
  · exact wpAny_execs_nil (k _ _ s₂ loc' σ₂ .next e2 f2 (st.transO f' e3.own) e4)
  · refine br_ot e4 A s₂ _ _ r e2 f2 (fun fw fl s₃ loc₃ σ₃ z1 z2 z3 z4 z5 => ?_) fun e s₃ q => ?_
    · have st3 := (st.transO f' e3.own).transO f2 z4
      cases z1 with
      | next =>
        refine xE1A1 z5 fun m hm hI' => ?_
        try clear z5
        exact ⟨m, hm, (hIV _ _).mpr ⟨loc₃, σ₃, hI', z2, z3, st3⟩⟩
      | cont =>
        refine xE1A1 z5 fun m hm hI' => ?_
        try clear z5
        exact ⟨m, hm, (hIV _ _).mpr ⟨loc₃, σ₃, hI', z2, z3, st3⟩⟩
      | brk => exact k _ _ s₃ loc₃ σ₃ .next z2 z3 st3 z5
      | ret hv => exact k _ _ s₃ loc₃ σ₃ (.ret hv) z2 z3 st3 z5
    · have q' : X.rel s σ e s₃ := X.pre a f (st.transO f' e3.own) q
      exact X.note r q' fun s4 q4 => X.back r q4 fun s5 q5 => kx e s5 q5
end
end Mine
end
section
set_option Elab.async false
set_option maxRecDepth 100000
set_option linter.unusedVariables false
namespace Mine
open PySem PySem.W
open PyProof.Rows (subscriptTail IsTup IsTupIter)

/-! ### iterators -/
set_option genInjectivity false in
set_option genSizeOf false in
structure It (C : Cx) (it : Addr) (xs : List V) (Ok : Sg → Prop) where
  St : Nat → Heap → Prop
  there : ∀ {i h}, St i h → ∃ o, h.get? it = some o
  noTup : ∀ {i h}, St i h → NoTup (fun b => b = it) h
  keep : ∀ {N : Addr → Prop} {h h' i}, Keeps N h h' → NoTup N h → ¬ N it → St i h → St i h'
  item : ∀ {A s σ i x} {Q : Option Value → Shared → Prop} {E : Value → Shared → Prop}, A.handled = none → At C s.heap σ → Ok σ → St i s.heap → xs[i]? = some x →
    (∀ h' t v, Rep s.heap v x → St (i + 1) h' → Heap.ExtBut it s.heap h' → Q (some v) { s with heap := h', toks := t }) → wpAny (model C.prog C.w) A (pyNext (.ref it)) Q E s
  fin : ∀ {A s σ} {Q : Option Value → Shared → Prop} {E : Value → Shared → Prop}, A.handled = none → At C s.heap σ → Ok σ → St xs.length s.heap →
    (∀ h', Heap.ExtBut it s.heap h' → Q none { s with heap := h' }) → wpAny (model C.prog C.w) A (pyNext (.ref it)) Q E s
  again : ∀ {A s i} {Q : Value → Shared → Prop} {E : Value → Shared → Prop}, St i s.heap → Q (.ref it) s → wpAny (model C.prog C.w) A (pyIter (.ref it)) Q E s

noncomputable def It.list (C : Cx) (it a : Addr) (vs : List V) : It C it vs (fun σ => σ a = some (.list vs)) where
  St i h := h.IsListIter it a i
  there := fun ⟨o, e, _⟩ => ⟨o, e⟩
  noTup := fun ⟨o, e, c, _⟩ b hb o' e' c' => by subst hb; rw [e] at e'; cases e'; rw [c] at c'; simp at c'
  keep := fun k _ n ⟨o, e, r⟩ => ⟨o, k _ _ e n, r⟩
  item := fun {A s σ i x Q E} hh a ok st hx hq => by
    refine Classical.byContradiction fun hG => ?_
    refine xE2A1 (a.list ok) fun items n he hr => ?_
    refine xE1A1 (hr.get hx) fun y hy hyr => ?_
    refine hG ?_
    clear hG
    exact wpAny_pyNext_list_item st ⟨_, he, rfl, n, rfl⟩ (by rw [← Array.getElem?_toList]; exact hy) fun h' st' hs => hq h' s.toks y hyr st' hs.extBut
  fin := fun {A s σ Q E} hh a ok st hq => by
    refine xE2A1 (a.list ok) fun items n he hr => ?_
    refine wpAny_pyNext_list_end hh st ⟨_, he, rfl, n, rfl⟩ ?_ hq
    have := hr.length
    rw [Array.length_toList] at this
    simp [← this]
  again := fun st q => wpAny_pyIter_listiter st q

noncomputable def It.tup (C : Cx) (it t : Addr) (vs : List V) : It C it vs (fun _ => True) where
  St i h := IsTupIter h it t i ∧ Rep h (.ref t) (.tup vs)
  there := fun ⟨⟨o, e, _⟩, _⟩ => ⟨o, e⟩
  noTup := fun ⟨⟨o, e, c, _⟩, _⟩ b hb o' e' c' => by subst hb; rw [e] at e'; cases e'; rw [c] at c'; simp at c'
  keep := fun k nt n ⟨⟨o, e, r⟩, hr⟩ => ⟨⟨o, k _ _ e n, r⟩, hr.keep k nt⟩
  item := fun {A s σ i x Q E} hh a ok st hx hq => by
    refine xE0A1 st fun st hr => ?_
    have hr' := hr
    cases hr with
    | tup he hr =>
      rename_i items n
      refine xE1A1 (hr.get hx) fun y hy hyr => ?_
      refine PyProof.Rows.next_tuple_item st ⟨_, he, rfl, n, rfl⟩ (by rw [← Array.getElem?_toList]; exact hy) fun h' st' hs => hq h' s.toks y hyr ⟨st', ?_⟩ hs.extBut
      refine xE1A2 st fun o e c _ => ?_
      try clear st
      exact hr'.keep (N := fun b => b = it) (fun b o eb n => (hs.2 b n).trans eb) fun b hb o' e' c' => by subst hb; rw [e] at e'; cases e'; rw [c] at c'; simp at c'
  fin := fun {A s σ Q E} hh a ok st hq => by
    refine xE0A1 st fun st hr => ?_
    cases hr with
    | tup he hr =>
      rename_i items n
      refine PyProof.Rows.next_tuple_end hh st ⟨_, he, rfl, n, rfl⟩ ?_ hq
      have := hr.length
      rw [Array.length_toList] at this
      simp [← this]
  again := fun ⟨st, _⟩ q => wpAny_pyIter_tupleiter st q

/-- a, a + c, a + 2c .. : n of them -/
noncomputable def steps (a c : Int) : Nat → List V
  | 0 => []
  | n + 1 => .int a :: steps (a + c) c n
theorem steps_length (a c : Int) : ∀ n, (steps a c n).length = n
  | 0 => rfl
  | n + 1 => by simp [steps, steps_length (a + c) c n]
theorem steps_get (a c : Int) : ∀ (n i : Nat), i < n → (steps a c n)[i]? = some (.int (a + i * c))
  | 0, i, h => absurd h (Nat.not_lt_zero _)
  | n + 1, 0, h => by simp [steps]
  | n + 1, i + 1, h => by
    simp only [steps, List.getElem?_cons_succ]
    rw [steps_get (a + c) c n i (by (first | lia | omega))]
    congr 2
    push_cast
    rw [Int.add_mul]; (first | lia | omega)

noncomputable def It.range (C : Cx) (it : Addr) (a c : Int) (n : Nat) : It C it (steps a c n) (fun _ => True) where
  St i h := IsRangeIter h it (a + i * c) ((n : Int) - i) c
  there := fun e => ⟨_, e⟩
  noTup := fun e b hb o' e' c' => by subst hb; rw [e] at e'; cases e'; simp at c'
  keep := fun k _ n e => k _ _ e n
  item := fun {A s σ i x Q E} hh _ ok st hx hq => by
    have hi : i < n := by
      have := (List.getElem?_eq_some_iff.mp hx).1
      rwa [steps_length] at this
    rw [steps_get _ _ _ _ hi] at hx
    cases hx
    refine wpAny_pyNext_range_item st (by (first | lia | omega)) fun h' st' hs => hq h' (s.toks + 1) _ (.int _ _) ?_ hs.extBut
    have e1 : a + ↑i * c + c = a + ((i + 1 : Nat) : Int) * c := by push_cast; rw [Int.add_mul]; (first | lia | omega)
    have e2 : ((n : Int) - i) - 1 = (n : Int) - ((i + 1 : Nat) : Int) := by push_cast; (first | lia | omega)
    rw [e1, e2] at st'
    exact st'
  fin := fun {A s σ Q E} hh _ ok st hq => by
    rw [steps_length] at st
    exact wpAny_pyNext_range_end hh st (by (first | lia | omega)) hq
  again := fun st q => wpAny_pyIter_rangeiter st q

section
variable {C : Cx} {R : Rm} {env : Env} {X : XT C R env} {loc : Loc} {σ : Sg} {P : Fl → Loc → Sg → Prop}

theorem Stp.ext {N : Addr → Prop} {s s₁ : Shared} {σ₁ : Sg} {it : Addr} {h' : Heap} (x : Stp N s σ s₁ σ₁) (hi : s.heap.get? it = none) (e : Heap.ExtBut it s₁.heap h') (t : Nat) : Stp N s σ { s₁ with heap := h', toks := t } σ₁ :=
  ⟨fun b o eb hb n => e b o (fun q => by subst q; rw [hi] at eb; cases eb) (x.keep b o eb hb n), fun b o eb => (x.there b o eb).elim fun o' e' => ⟨o', e b o' (fun q => by subst q; rw [hi] at eb; cases eb) e'⟩, x.dom, x.gens, x.os⟩
theorem At.ext {h h' : Heap} {it : Addr} (a : At C h σ) (hi : C.h₀.get? it = none) (hs : σ it = none) (e : Heap.ExtBut it h h') (nt : NoTup (fun b => b = it) h) : At C h' σ :=
  ⟨fun b o eb => e b o (fun q => by subst q; rw [hi] at eb; cases eb) (a.keep b o eb), fun b ao eb => (a.objs b ao eb).keep (N := fun b => b = it) (fun b o e' n => e b o n e') nt (fun q => by subst q; rw [hs] at eb; cases eb), a.new⟩
theorem Fo.ext {h h' : Heap} {it : Addr} (f : Fo C h σ env loc) (hi : ¬ Own env it) (e : Heap.ExtBut it h h') (nt : NoTup (fun b => b = it) h) : Fo C h' σ env loc :=
  f.keep (N := fun b => b = it) (fun b o e' n => e b o n e') nt (fun b hb q => hi (q ▸ hb)) fun b hb => (f.new b hb).2

/-- an iterator made -/
noncomputable def WI (C : Cx) (R : Rm) (env : Env) (loc : Loc) (iter : Expr) (P : List V → (Sg → Prop) → Sg → Prop) (σ : Sg) : Prop :=
  ∀ (A : Around) (s : Shared) (Q : Value → Shared → Prop) (E : Value → Shared → Prop), R.P A → At C s.heap σ → Fo C s.heap σ env loc →
    (∀ it xs Ok (I : It C it xs Ok) s' σ', At C s'.heap σ' → Fo C s'.heap σ' env loc → Stp Nil s σ s' σ' → s.heap.get? it = none → C.h₀.get? it = none → σ' it = none → ¬ Own env it → I.St 0 s'.heap → P xs Ok σ' → Q (.ref it) s') →
    wpAny (model C.prog C.w) A (eval iter env) (fun x s₁ => wpAny (model C.prog C.w) A (pyIter x) Q E s₁) E s

theorem S_For {x : Str} {px pos : Pos} {iter : Expr} {body : List Stmt} (hk : env.kindOf x = some .local ∨ env.kindOf x = some .cell)
    (h : WI C R env loc iter (fun xs Ok σ₁ => ∃ J : Nat → Loc → Sg → Prop, J 0 loc σ₁ ∧ (∀ i l s, J i l s → Ok s) ∧
      (∀ I : Nat → Loc → Sg → Prop, (∀ {i l s}, J i l s → I i l s) → ∀ i y l s, xs[i]? = some y → J i l s → WS C R env X (execs body env) (Lp (I (i + 1)) P) (setL l x y) s) ∧
      (∀ l s, J xs.length l s → P .next l s)) σ)
    (hs : ∀ x, foldedSetIterable iter env x = pure x := by intro _; rfl) : WS C R env X (exec (.For (.Name x px) iter body [] pos) env) P loc σ := by
  intro A s Q E r a f k kx
  refine wpAny_For (h A s _ E r a f fun it xs Ok I s₁ σ₁ a₁ f₁ st₁ hn hb hσ ho hst hJ => ?_) hs
  refine xE1A3 hJ fun J h0 hok turn fin => ?_
  try clear hJ
  obtain ⟨IV, hIV⟩ : ∃ IV : Nat → Shared → Prop, ∀ n s', IV n s' ↔ ∃ i l σ', n = xs.length + 1 - i ∧ i ≤ xs.length ∧ J i l σ' ∧ At C s'.heap σ' ∧ Fo C s'.heap σ' env l ∧ Stp (Own env) s σ s' σ' ∧ I.St i s'.heap ∧ σ' it = none := ⟨_, fun _ _ => Iff.rfl⟩
  refine codeAny_forLoop IV ?_ (xs.length + 1) ((hIV _ _).mpr ⟨0, loc, σ₁, rfl, Nat.zero_le _, h0, a₁, f₁, st₁.own, hst, hσ⟩)
  intro n s' hI
  refine Classical.byContradiction fun hG => ?_
  refine xE3A7 ((hIV _ _).mp hI) fun i l σ' hr1_ hi hJ a' f' st' hst' hσ' => ?_
  obtain rfl := hr1_
  refine hG ?_
  clear hG
  cases hx : xs[i]? with
  | none =>
    have hlen : i = xs.length := Nat.le_antisymm hi (by simpa using hx)
    subst hlen
    refine I.fin (R.handled A r) a' (hok _ _ _ hJ) hst' fun h' e => ?_
    have nt := I.noTup hst'
    exact wpAny_execs_nil (k _ _ { s' with heap := h' } l σ' .next (a'.ext hb hσ' e nt) (f'.ext ho e nt) (st'.ext hn e s'.toks) (fin l σ' hJ))
  | some y =>
    have hlt : i < xs.length := (List.getElem?_eq_some_iff.mp hx).1
    refine I.item (R.handled A r) a' (hok _ _ _ hJ) hst' hx fun h' t v hv hst2 e => ?_
    have nt := I.noTup hst'
    have a2 := a'.ext hb hσ' e nt
    have f2 := f'.ext ho e nt
    have st2 := st'.ext hn e t
    have hv2 : Rep h' v y := hv.keep (N := fun b => b = it) (fun b o e' n => e b o n e') nt
    show wpAny _ _ (assign (.Name x px) env v) _ _ _
    refine PyProof.Rows.assign_Name (wp_store (s := { s' with heap := h', toks := t }) a2 f2 hk hv2 fun s3 a3 f3 st3 _ => ?_)
    have nt2 := I.noTup hst2
    have noIt : ¬ (σ' it ≠ none ∨ Own env it) := fun q => q.elim (fun q => q hσ') ho
    have hst3 : I.St (i + 1) s3.heap := I.keep (N := fun b => σ' b ≠ none ∨ Own env b) (fun b o eb nb => st3.keep b o eb (by
        cases q : σ' b with
        | none => rfl
        | some o => exact absurd (Or.inl (show σ' b ≠ none by rw [q]; exact fun z => nomatch z)) nb) fun q => nb (.inr q))
      (fun b nb => nb.elim (fun q => a2.noTup b q) fun q => f2.noTup b q) noIt hst2
    refine turn J id i y l σ' hx hJ A s3 _ _ r a3 f3 (fun fw fl s4 l4 σ4 z1 z2 z3 z4 z5 => ?_) fun e' s4 q => ?_
    · have st4 := (st2.transO f2 st3).transO f3 z4
      have hst4 : I.St (i + 1) s4.heap := I.keep (N := fun b => σ' b ≠ none ∨ Own env b) (fun b o eb nb => z4.keep b o eb (by
          cases q : σ' b with
          | none => rfl
          | some o => exact absurd (Or.inl (show σ' b ≠ none by rw [q]; exact fun z => nomatch z)) nb) fun q => nb (.inr q))
        (fun b nb => nb.elim (fun q => a3.noTup b q) fun q => f3.noTup b q) noIt hst3
      refine xE1A0 (I.there hst3) fun oit eit => ?_
      have hσ4 : σ4 it = none := z4.dom it oit eit hσ'
      cases z1 with
      | next => exact ⟨xs.length + 1 - (i + 1), by (first | lia | omega), (hIV _ _).mpr ⟨i + 1, l4, σ4, rfl, hlt, z5, z2, z3, st4, hst4, hσ4⟩⟩
      | cont => exact ⟨xs.length + 1 - (i + 1), by (first | lia | omega), (hIV _ _).mpr ⟨i + 1, l4, σ4, rfl, hlt, z5, z2, z3, st4, hst4, hσ4⟩⟩
      | brk => exact k _ _ s4 l4 σ4 .next z2 z3 st4 z5
      | ret hv => exact k _ _ s4 l4 σ4 (.ret hv) z2 z3 st4 z5
    · have q' : X.rel s σ e' s4 := X.pre a f (st2.transO f2 st3) q
      exact X.note r q' fun s5 q5 => X.back r q5 fun s6 q6 => kx e' s6 q6

theorem I_list {iter : Expr} {P : List V → (Sg → Prop) → Sg → Prop} (h : WE C R env loc (eval iter env) (fun x σ₁ => ∃ a vs, x = .ref a ∧ σ₁ a = some (.list vs) ∧ P vs (fun σ => σ a = some (.list vs)) σ₁) σ) : WI C R env loc iter P σ := by
  intro A s Q E r a f k
  refine h A s _ E r a f fun v x s₁ σ₁ e1 e2 e3 e4 => ?_
  refine Classical.byContradiction fun hG => ?_
  refine xE2A2 e4 fun l vs hr2_ q1 q2 => ?_
  try clear e4
  obtain rfl := hr2_
  refine hG ?_
  clear hG
  cases e1
  have f1 := f.step a e3
  refine xE2A1 (e2.list q1) fun items n he hr => ?_
  refine wpAny_pyIter_list ⟨_, he, rfl, n, rfl⟩ (k _ vs _ (It.list C s₁.heap.objs.size l vs) { s₁ with heap := s₁.heap.push _ } σ₁ (e2.push _) (f1.step e2 (Stp.push Nil s₁ σ₁ _ s₁.toks)) (e3.trans (Stp.push Nil s₁ σ₁ _ s₁.toks)) e3.fresh e2.base_new e2.fresh (fun o => Nat.lt_irrefl _ (f1.lt o)) ?_ q2)
  exact ⟨_, Heap.get?_push_size _ rfl, rfl, rfl⟩
theorem I_tup {iter : Expr} {P : List V → (Sg → Prop) → Sg → Prop} (h : WE C R env loc (eval iter env) (fun x σ₁ => ∃ vs, x = .tup vs ∧ P vs (fun _ => True) σ₁) σ) : WI C R env loc iter P σ := by
  intro A s Q E r a f k
  refine h A s _ E r a f fun v x s₁ σ₁ e1 e2 e3 e4 => ?_
  refine Classical.byContradiction fun hG => ?_
  refine xE1A1 e4 fun vs hr3_ q2 => ?_
  try clear e4
  obtain rfl := hr3_
  refine hG ?_
  clear hG
  have f1 := f.step a e3
  have e1' := e1
  cases e1 with
  | tup he hr =>
    rename_i t items n
    refine PyProof.Rows.iter_tuple ⟨_, he, rfl, n, rfl⟩ (k _ vs _ (It.tup C s₁.heap.objs.size t vs) { s₁ with heap := s₁.heap.push _ } σ₁ (e2.push _) (f1.step e2 (Stp.push Nil s₁ σ₁ _ s₁.toks)) (e3.trans (Stp.push Nil s₁ σ₁ _ s₁.toks)) e3.fresh e2.base_new e2.fresh (fun o => Nat.lt_irrefl _ (f1.lt o)) ?_ q2)
    exact ⟨⟨_, Heap.get?_push_size _ rfl, rfl, rfl⟩, (Stp.push Nil s₁ σ₁ _ s₁.toks).rep e2 e1'⟩
end
end Mine
end
section
set_option Elab.async false
set_option maxRecDepth 100000
set_option linter.unusedVariables false
namespace Mine
open PySem PySem.W

/-! ### room -/
theorem cLine_eq : cLine = 9900 := rfl
theorem recLimit_eq : recursionLimit = 1000 := rfl
noncomputable def lv (n : Nat) : Rm where
  P A := A.handled = none ∧ A.depth + 8 * n + 20 < 1000 ∧ A.units + 20 * n + 400 < 9900
  units := fun A h => by rw [cLine_eq]; omega
  depth := fun A h => by rw [recLimit_eq]; omega
  handled := fun A h => h.1
theorem lv_deeper {n : Nat} {A : Around} (h : (lv (n + 1)).P A) (env : Env) : (lv n).P (A.deeper env) := by
  refine xE0A2 h fun h1 h2 h3 => ?_
  try clear h
  exact ⟨h1, by show A.depth + 1 + 8 * n + 20 < 1000; omega, by show A.units + 3 + 20 * n + 400 < 9900; omega⟩
theorem lv_mono {n m : Nat} {A : Around} (h : (lv n).P A) (hm : m ≤ n) : (lv m).P A := ⟨h.1, by have := h.2.1; omega, by have := h.2.2; omega⟩

section
variable {C : Cx} {R : Rm} {env : Env} {loc : Loc} {σ : Sg}

theorem At.grow {h h' : Heap} (x : At C h σ) (k : ∀ b o, h.get? b = some o → h'.get? b = some o) : At C h' σ :=
  ⟨fun b o e => k b o (x.keep b o e), fun a ao e => (x.objs a ao e).keep (N := fun _ => False) (fun b o e' _ => k b o e') (fun _ n => n.elim) id, x.new⟩
theorem Stp.grow (N : Addr → Prop) (s : Shared) (σ : Sg) {h' : Heap} (t : Nat) (k : ∀ b o, s.heap.get? b = some o → h'.get? b = some o) : Stp N s σ { s with heap := h', toks := t } σ :=
  ⟨fun b o e _ _ => k b o e, fun b o e => ⟨o, k b o e⟩, fun _ _ _ h => h, rfl, rfl⟩

/-- the contract of a function of the text: what a call of it gives -/
noncomputable def WC (C : Cx) (R : Around → Prop) (f : Addr) (args : List V) (P : V → Sg → Prop) (σ : Sg) : Prop :=
  ∀ (A : Around) (s : Shared) (Q E : Value → Shared → Prop) (vals : List Value), R A → At C s.heap σ → Reps s.heap vals args →
    (∀ v x s' σ', Rep s'.heap v x → At C s'.heap σ' → Stp Nil s σ s' σ' → P x σ' → Q v s') →
    codeAny (model C.prog C.w) A (.call (.ref f) ⟨vals, []⟩) (wants Q E) s

theorem WC.mono {R : Around → Prop} {f : Addr} {args : List V} {P P' : V → Sg → Prop} (h : WC C R f args P σ) (hp : ∀ x s, P x s → P' x s) : WC C R f args P' σ :=
  fun A s Q E vals r a rv k => h A s Q E vals r a rv fun v x s' σ' e1 e2 e3 e4 => k v x s' σ' e1 e2 e3 (hp _ _ e4)

/-- what a frame hands back -/
noncomputable def retV : Fl → V
  | .ret v => v
  | _ => .none
noncomputable def locOf (names : List Str) (args : List V) : Loc := fun x => ((names.zip args).reverse).lookup x

theorem lookup_zip {h : Heap} {x : Str} : ∀ {names : List Str} {vals : List Value} {args : List V} , Reps h vals args → ∀ {v : V}, ((names.zip args).reverse).lookup x = some v → ∃ val, ((names.zip vals).reverse).lookup x = some val ∧ Rep h val v := by
  have key : ∀ (l : List (Str × Value)) (m : List (Str × V)), List.length l = List.length m → (∀ (i : Nat) (p : Str × Value) (q : Str × V), l[i]? = some p → m[i]? = some q → p.1 = q.1 ∧ Rep h p.2 q.2) → ∀ v, m.lookup x = some v → ∃ val, l.lookup x = some val ∧ Rep h val v := by
    intro l
    induction l with
    | nil => intro m hl _ v e; cases m with | nil => cases e | cons _ _ => cases hl
    | cons p l ih =>
      intro m hl hp v e
      cases m with
      | nil => cases hl
      | cons q m =>
        refine Classical.byContradiction fun hG => ?_
        refine xE0A1 (hp 0 p q rfl rfl) fun h1 h2 => ?_
        obtain ⟨p1, p2⟩ := p
        obtain ⟨q1, q2⟩ := q
        refine hG ?_
        clear hG
        dsimp only at h1 h2
        subst h1
        rw [List.lookup_cons] at e ⊢
        cases hb : (x == p1) with
        | true => rw [hb] at e; cases e; exact ⟨p2, rfl, h2⟩
        | false =>
          rw [hb] at e
          exact ih m (by simpa using hl) (fun i p q e1 e2 => hp (i + 1) p q (by simpa using e1) (by simpa using e2)) v e
  intro names vals args r v e
  refine key _ _ (by simp [r.length]) (fun i p q e1 e2 => ?_) v e
  have hlen : (names.zip vals).length = (names.zip args).length := by simp [r.length]
  have hi : i < (names.zip vals).length := by have := (List.getElem?_eq_some_iff.mp e1).1; simpa using this
  rw [List.getElem?_reverse hi] at e1
  rw [List.getElem?_reverse (by rw [← hlen]; exact hi), ← hlen] at e2
  rw [List.getElem?_zip_eq_some] at e1 e2
  refine Classical.byContradiction fun hG => ?_
  refine xE0A1 e1 fun a1 a2 => ?_
  try clear e1
  refine xE0A1 e2 fun b1 b2 => ?_
  try clear e2
  refine hG ?_
  clear hG
  have : p.1 = q.1 := Option.some.inj (a1.symm.trans b1)
  refine xE1A1 (r.get b2) fun u hu hr => ?_
  rw [a2] at hu
  cases hu
  exact ⟨this, hr⟩

theorem mem_lookup {β : Type} {x : Str} {kd : β} {l : List (Str × β)} (e : l.lookup x = some kd) : (x, kd) ∈ l := by
  induction l with
  | nil => cases e
  | cons p l ih =>
    obtain ⟨y, q⟩ := p
    rw [List.lookup_cons] at e
    cases hb : (x == y) with
    | true => rw [hb] at e; cases e; rw [beq_iff_eq.mp hb]; exact .head _
    | false => rw [hb] at e; exact .tail _ (ih e)
/-- how the arguments are bound -/
noncomputable def BindF (K : Frag) (fd : FuncData) (names : List Str) (n : Nat) (dv : List Value) : Prop :=
  ∀ (s : Shared) (vals : List Value), K.In s.heap → vals.length = n → BindsTo s fd ⟨vals, []⟩ (names.zip (vals ++ dv))

theorem Reps.appendD {h : Heap} {vs : List Value} {xs : List V} {dv : List Value} {da : List V} (r : Reps h vs xs) (d : Reps h dv da) : Reps h (vs ++ dv) (xs ++ da) := r.append d

/-- what is to come where the frame is left -/
noncomputable def Rq (P : V → Sg → Prop) (fl : Fl) (_ : Loc) (σ' : Sg) : Prop := ∃ σ'' : Sg, (∀ a o, σ'' a = some o → σ' a = some o) ∧ P (retV fl) σ''
theorem Rq_end {P Q : V → Sg → Prop} {fl : Fl} {l : Loc} {σ' : Sg} (hQ : ∀ x s, P x s → Q x s) (h : ∃ σ'' : Sg, (∀ a o, σ'' a = some o → σ' a = some o) ∧ P (retV fl) σ'') : Rq Q fl l σ' :=
  h.elim fun s h => ⟨s, h.1, hQ _ _ h.2⟩
theorem WC_def {f : Addr} {oc : Value} {od : Option Addr} {osl : Array (Option Value)} {fd : FuncData} {body : List Stmt} {args da : List V} {dv : List Value} {names : List Str} {P : V → Sg → Prop} {n : Nat} (R' : Around → Prop)
    (hR : ∀ A, R' A → (lv (n + 1)).P A)
    (hK : C.K.lookup f = some ⟨oc, od, .func fd, osl⟩) (hcd : codeIn C.K fd.code fd.qualname = true) (hbody : fd.body = .stmts body)
    (hg : fd.globals = mainGlobals) (hbi : fd.builtins = builtinsNs) (hcl : fd.closure = []) (hb : BindF C.K fd names args.length dv) (hd : ∀ h, Reps h dv da)
    (hsc : fd.scope.names.all (fun x => x.2 != .cell && x.2 != .free) = true) (hloc : (names.all fun x => decide (fd.scope.names.lookup x = some .local)) = true)
    (h : ∀ L, σ L = none → ∀ Qp : V → Sg → Prop, (∀ x s, P x s → Qp x s) → WS C (lv n) (callEnv fd L f) (.no ..) (execs body (callEnv fd L f)) (Rq Qp) (locOf names (args ++ da)) σ)
    (hco : fd.scope.isCoroutine = false := by rfl) (hgen : fd.scope.isGenerator = false := by rfl) (hk : fd.scope.kind = .function := by rfl) :
    WC C R' f args P σ := by
  intro A s Q E vals r a rv k
  have X := C.kin.keeps a.keep
  have hl : vals.length = args.length := rv.length
  have rv2 : Reps s.heap (vals ++ dv) (args ++ da) := rv.append (hd _)
  have hbs := hb s vals X hl
  have cellAll : ∀ x ∈ fd.scope.names, x.2 ≠ .cell ∧ x.2 ≠ .free := fun x hx => by
    have := List.all_eq_true.mp hsc x hx
    simp only [Bool.and_eq_true, bne_iff_ne, ne_eq] at this
    exact this
  refine codeAny_call_def (by have := (hR A r).2.1; rw [recLimit_eq]; omega) (X _ _ hK) rfl (C.top.nolimit.keeps a.keep) (codeRec_of X hcd) hbody hbs (fun x hx => (cellAll x hx).1) (fun x hx => ?_) (fun h₁ hn hk₁ => ?_) hco hgen hk
  · obtain ⟨x1, x2⟩ := x
    have := (List.of_mem_zip hx).1
    exact of_decide_eq_true (List.all_eq_true.mp hloc _ this)
  · have a₁ := a.grow hk₁
    have kindNo : ∀ x, ¬ ((callEnv fd s.heap.objs.size f).kindOf x = some .cell ∨ (callEnv fd s.heap.objs.size f).kindOf x = some .free) := by
      intro x hx
      have key : ∀ kd, fd.scope.names.lookup x = some kd → kd ≠ .cell ∧ kd ≠ .free := fun kd e => by
        have : (x, kd) ∈ fd.scope.names := by
          exact mem_lookup e
        exact cellAll _ this
      rcases hx with hx | hx
      · exact (key _ hx).1 rfl
      · exact (key _ hx).2 rfl
    have fo : Fo C h₁ σ (callEnv fd s.heap.objs.size f) (locOf names (args ++ da)) := by
      refine ⟨hk, hg, hbi, ⟨_, hn, fun x v hv _ => ?_⟩, fun x c hc => ?_, fun x hx => absurd hx (kindNo x), fun x y c hc => ?_, fun b hb' => ?_⟩
      · refine xE1A1 (lookup_zip rv2 hv) fun val e1 e2 => ?_
        exact ⟨val, e1, e2.keep (N := fun _ => False) (fun b o e _ => hk₁ b o e) fun _ n => n.elim⟩
      · have : fd.closure.lookup x = some c := hc
        rw [hcl] at this; cases this
      · have : fd.closure.lookup x = some c := hc
        rw [hcl] at this; cases this
      · rcases hb' with rfl | ⟨x, hx⟩
        · exact ⟨a.base_new, a.fresh⟩
        · have : fd.closure.lookup x = some b := hx
          rw [hcl] at this; cases this
    refine h _ a.fresh P (fun _ _ h => h) _ { s with heap := h₁, toks := _ } _ _ (lv_deeper (hR A r) _) a₁ fo (fun fw fl s' loc' σ' e1 e2 e3 e4 e5 => ?_) fun _ _ q => q.elim
    refine xE1A1 e5 fun σ'' hs hp => ?_
    try clear e5
    have st : Stp Nil s σ s' σ' := by
      refine ⟨fun b o e hb _ => e4.keep b o (hk₁ b o e) hb fun q => ?_, fun b o e => e4.there b o (hk₁ b o e), fun b o e hb => e4.dom b o (hk₁ b o e) hb, e4.gens, e4.os⟩
      rcases q with rfl | ⟨x, hx⟩
      · exact Nat.lt_irrefl _ (Heap.lt_size e)
      · have : fd.closure.lookup x = some b := hx
        rw [hcl] at this; cases this
    show Q _ s'
    refine k _ (retV fl) s' σ'' ?_ (e2.forget hs) (st.forget hs) hp
    cases e1 with
    | next => exact .none
    | brk => exact .none
    | cont => exact .none
    | ret hv => exact hv

/-! ### calls in expressions -/
theorem wp_callK {A : Around} {s : Shared} {pos : Pos} {f : Addr} {first : List Value} {fx : List V} {args : List Expr} {P : V → Sg → Prop} {Q E : Value → Shared → Prop} (r : R.P A) (a : At C s.heap σ) (fo : Fo C s.heap σ env loc) (hk : keepIn C.K (.ref f) = true) (hf : ∀ h, Reps h first fx)
    (h : WL C R env loc (spliced (backTo pos (starEach args env))) (fun xs σ₂ => WC C R.P f (fx ++ xs) P σ₂) σ)
    (k : ∀ v x s' σ', Rep s'.heap v x → At C s'.heap σ' → Stp Nil s σ s' σ' → P x σ' → Q v s')
    (hplain : (backTo pos (starEach args env)).any (·.1) = false := by rfl) : wpAny (model C.prog C.w) A (callWith pos (.ref f) first (backTo pos (starEach args env)) []) Q E s := by
  refine callWith_of (P := C.K.In) (by rw [hplain]; rfl) (keeps_K hk) (evalArgs_of hplain (h A s _ E r a fo fun vs xs s₁ σ₁ e1 e2 e3 e4 => ⟨C.kin.keeps e2.keep, ?_⟩))
  exact wpAny_call (e4 A s₁ Q E _ r e2 ((hf _).append e1) fun v x s' σ' q1 q2 q3 q4 => k v x s' σ' q1 q2 (e3.trans q3) q4)

noncomputable abbrev Cw (C : Cx) (R : Rm) (f : Addr) (P : V → Sg → Prop) (xs : List V) (σ₂ : Sg) : Prop := WC C R.P f xs P σ₂
theorem W_CallF {g : Str} {gp pos : Pos} {args : List Expr} {f : Addr} {P : V → Sg → Prop} (hv : nsIn C.K mainGlobals g = some (some (.ref f))) (hk : keepIn C.K (.ref f) = true) (hn : env.kindOf g = some .globalImplicit)
    (h : WL C R env loc (spliced (backTo pos (starEach args env))) (Cw C R f P) σ)
    (hplain : (backTo pos (starEach args env)).any (·.1) = false := by rfl) (hd : (g == ("__debug__" : Str)) = false := by decide) : WE C R env loc (eval (.Call (.Name g gp) args [] pos) env) P σ := by
  intro A s Q E r a f' k
  refine wpAny_Call_Name_kw (W_NameG (v := .ref f) (P := fun x σ' => x = .ref f ∧ σ' = σ) hv (fun _ _ => .ref _) hn ⟨rfl, rfl⟩ hd A s _ E r a f' fun v x s₁ σ₁ e1 e2 e3 e4 => ?_)
  refine Classical.byContradiction fun hG => ?_
  refine xE0A1 e4 fun hr1_ hr2_ => ?_
  try clear e4
  obtain rfl := hr1_
  obtain rfl := hr2_
  refine hG ?_
  clear hG
  cases e1
  exact wp_callK (first := []) (fx := []) r e2 (f'.step a e3) hk (fun _ => .nil) (by simpa using h) (fun v x s' σ' q1 q2 q3 q4 => k v x s' σ' q1 q2 (e3.trans q3) q4) hplain

/-- the class has this def, and instances hand it out -/
noncomputable def mthOk (K : Frag) (Cl : Addr) (name : Str) (f : Addr) : Bool := plainGet K Cl name && (findIn K (.ref Cl) name == some (some (.ref f))) && isFn K (.ref f) && keepIn K (.ref f)

/-- what a method of an own class wants -/
noncomputable abbrev KM (C : Cx) (R : Rm) (env : Env) (loc : Loc) (name : Str) (pos : Pos) (args : List Expr) (P : V → Sg → Prop) (x : V) (σ₁ : Sg) : Prop := ∃ a Cl d g n f, x = .ref a ∧ σ₁ a = some (.inst Cl d) ∧ σ₁ d = some (.ns g n) ∧ g name = none ∧ mthOk C.K Cl name f = true ∧
  WL C R env loc (spliced (backTo pos (starEach args env))) (Kx (.ref a) (Cw C R f P)) σ₁
theorem KM_i {name : Str} {pos : Pos} {args : List Expr} {P : V → Sg → Prop} {a Cl d f : Addr} {g : Str → Option V} {n : Nat} (e1 : σ a = some (.inst Cl d)) (e2 : σ d = some (.ns g n)) (e3 : g name = none) (e4 : mthOk C.K Cl name f = true)
    (h : WL C R env loc (spliced (backTo pos (starEach args env))) (Kx (.ref a) (Cw C R f P)) σ) : KM C R env loc name pos args P (.ref a) σ :=
  ⟨a, Cl, d, g, n, f, rfl, e1, e2, e3, e4, h⟩
theorem W_MethI {o : Expr} {name : Str} {ap pos : Pos} {args : List Expr} {pl : Sem Bool} {P : V → Sg → Prop}
    (h : WE C R env loc (eval o env) (KM C R env loc name pos args P) σ)
    (he : methEq env o name ap pos args pl := by rfl)
    (hplain : (backTo pos (starEach args env)).any (·.1) = false := by rfl) : WE C R env loc (eval (.Call (.Attribute o name ap) args [] pos) env) P σ := by
  intro A s Q E r a f' k
  refine methodCall_KW (kws := []) (pl := pl) (h A s _ E r a f' fun v x s₁ σ₁ e1 e2 e3 e4 => ?_) he
  refine Classical.byContradiction fun hG => ?_
  refine xE6A5 e4 fun x Cl d g n f hr3_ q1 q2 q3 q4 q5 => ?_
  try clear e4
  obtain rfl := hr3_
  refine hG ?_
  clear hG
  cases e1
  have ha : s₁.heap.get? x = some (instObj Cl d) := e2.objs x _ q1
  refine xE2A3 (e2.objs d _ q2) fun es ep hd hkk hl hf => ?_
  have X := C.kin.keeps e2.keep
  have hh := hf name
  rw [q3] at hh
  have hnone := hh.isNone
  unfold mthOk at q4
  simp only [Bool.and_eq_true, beq_iff_eq] at q4
  refine Classical.byContradiction fun hG => ?_
  refine xE0A1 q4 fun hr4_ o4 => ?_
  try clear q4
  refine xE0A1 hr4_ fun hr1_ o3 => ?_
  try clear hr4_
  obtain ⟨o1, o2⟩ := hr1_
  refine hG ?_
  clear hG
  have I : InstAt s₁.heap x (instObj Cl d) Cl (some (dictOf es ep)) := ⟨ha, rfl, rfl, hd⟩
  refine method_fn X I (plainGet_of o1).1 (plainGet_of o1).2 o2 (beq_iff_eq.mp o3) ?_ ?_
  · show (lookIn name (dictOf es ep)).map _ = _
    rw [lookIn_dict]
    unfold getL
    rw [Option.map_eq_none_iff] at hnone
    rw [hnone]
    have : es.any (·.refKey) = false := by
      rw [List.any_eq_false]
      intro e he
      refine xE2A0 (hkk e he) fun k t q => ?_
      simp [DictEntry.refKey, q]
    rw [this]; rfl
  · exact wp_callK (first := [.ref x]) (fx := [.ref x]) r e2 (f'.step a e3) o4 (fun _ => .cons (.ref _) .nil) q5 (fun v x s' σ' z1 z2 z3 z4 => k v x s' σ' z1 z2 (e3.trans z3) z4) hplain

/-! ### instances made -/
noncomputable def newOk (K : Frag) (Cl f : Addr) : Bool := makesIn K Cl && (findIn K (.ref Cl) "__init__" == some (some (.ref f))) && (typeIn K (.ref f) == some (.type "function"))

theorem WC_new {Cl f : Addr} {args : List V} {P : V → Sg → Prop} {R R' : Around → Prop} (hR : ∀ A vals, R A → R' (A.under (.builtin "type.__call__" ⟨.ref Cl :: vals, []⟩))) (hok : newOk C.K Cl f = true)
    (h : ∀ a d, σ a = none → σ d = none → a ≠ d → WC C R' f (.ref a :: args) (fun x σ' => x = .none ∧ P (.ref a) σ') (upd (upd σ d (.ns (fun _ => none) 0)) a (.inst Cl d))) : WC C R Cl args P σ := by
  intro A s Q E vals r a rv k
  have X := C.kin.keeps a.keep
  unfold newOk at hok
  simp only [Bool.and_eq_true, beq_iff_eq] at hok
  refine Classical.byContradiction fun hG => ?_
  refine xE0A1 hok fun hr5_ o3 => ?_
  try clear hok
  refine xE0A1 hr5_ fun o1 o2 => ?_
  try clear hr5_
  refine hG ?_
  clear hG
  have hne : s.heap.objs.size + 1 ≠ s.heap.objs.size := Nat.succ_ne_self _
  have hd2 : (s.heap.push emptyDict).objs.size = s.heap.objs.size + 1 := Heap.size_push ..
  have a1 : At C (s.heap.push emptyDict) (upd σ s.heap.objs.size (.ns (fun _ => none) 0)) :=
    a.pushA emptyDict _ ⟨[], 0, Heap.get?_push_size _ rfl, (fun e he => nomatch he), Nat.le_refl _, fun x => trivial⟩
  have st1 := Stp.pushA Nil s σ emptyDict (.ns (fun _ => none) 0) s.toks
  have a2 : At C ((s.heap.push emptyDict).push (instObj Cl s.heap.objs.size)) (upd (upd σ s.heap.objs.size (.ns (fun _ => none) 0)) (s.heap.objs.size + 1) (.inst Cl s.heap.objs.size)) := by
    have := a1.pushA (instObj Cl s.heap.objs.size) (.inst Cl s.heap.objs.size) (Heap.get?_push_size _ rfl)
    rwa [hd2] at this
  have st2 : Stp Nil s σ { s with heap := (s.heap.push emptyDict).push (instObj Cl s.heap.objs.size) } (upd (upd σ s.heap.objs.size (.ns (fun _ => none) 0)) (s.heap.objs.size + 1) (.inst Cl s.heap.objs.size)) := by
    have q := st1.trans (Stp.pushA Nil { s with heap := s.heap.push emptyDict } _ (instObj Cl s.heap.objs.size) (.inst Cl s.heap.objs.size) s.toks)
    rw [hd2] at q
    exact q
  have hsz1 : σ (s.heap.objs.size + 1) = none := by
    cases q : σ (s.heap.objs.size + 1) with
    | none => rfl
    | some o => exact absurd (Nat.lt_of_succ_lt (a.lt q)) (Nat.lt_irrefl _)
  have hw := h (s.heap.objs.size + 1) s.heap.objs.size hsz1 a.fresh hne
  refine Classical.byContradiction fun hG => ?_
  obtain ⟨hp, g, d, t, os⟩ := s
  refine hG ?_
  clear hG
  refine make_core (makes_of X o1) (looks_findIn X o2) (fun self => bind_fn X self o3) (.inl rfl) ?_
  refine codeAny_mono (hw _ ⟨_, g, d, t, os⟩ (fun v s' => v = .none ∧ Q (.ref (hp.objs.size + 1)) s') E _ (hR _ _ r) a2 (.cons (.ref _) (st2.reps a rv)) fun v x s' σ' e1 e2 e3 e4 => ?_) fun rr s' z => ?_
  · refine Classical.byContradiction fun hG => ?_
    refine xE0A1 e4 fun hr6_ e5 => ?_
    obtain rfl := hr6_
    refine hG ?_
    clear hG
    cases e1
    exact ⟨rfl, k _ _ s' σ' (.ref _) e2 (st2.trans e3) e5⟩
  · rcases rr with e | (v | _ | _ | _) <;> first | exact z | exact z.elim
end
end Mine
end
section
set_option Elab.async false
set_option maxRecDepth 100000
set_option linter.unusedVariables false
namespace Mine
open PySem PySem.W
open PyProof.Rows (subscriptTail IsTup IsTupIter)

section
variable {C : Cx} {R : Rm} {env : Env} {loc : Loc} {σ : Sg} {X : XT C R env} {PS : Fl → Loc → Sg → Prop}

/-! ### things made -/
theorem Fo.grow {h h' : Heap} (f : Fo C h σ env loc) (k : ∀ b o, h.get? b = some o → h'.get? b = some o) : Fo C h' σ env loc :=
  f.keep (N := fun _ => False) (fun b o e _ => k b o e) (fun _ n => n.elim) (fun _ _ => id) fun b hb => (f.new b hb).2

noncomputable abbrev KTu (P : V → Sg → Prop) (xs : List V) (σ₁ : Sg) : Prop := xs.length ≤ 100000 ∧ P (.tup xs) σ₁
noncomputable abbrev KLi (P : V → Sg → Prop) (xs : List V) (σ₁ : Sg) : Prop := xs.length ≤ 100000 ∧ ∀ a, σ₁ a = none → P (.ref a) (upd σ₁ a (.list xs))
theorem W_Tuple {elts : List Expr} {k : Nat} {pos : Pos} {P : V → Sg → Prop} (h : WL C R env loc (spliced (backTo pos (starEach elts env))) (KTu P) σ) : WE C R env loc (eval (.Tuple elts k pos) env) P σ := by
  intro A s Q E r a f q
  refine PyProof.Rows.Tuple_ (h A s _ E r a f fun vs xs s₁ σ₁ e1 e2 e3 e4 => ?_)
  have hl := e1.length
  refine wpAny_newObj_type ?_ (by show vs.toArray.size ≤ sizeLine; rw [List.size_toArray, sizeLine_eq]; omega)
  refine q _ _ { s₁ with heap := s₁.heap.push _ } σ₁ (.tup (Heap.get?_push_size _ rfl) (by simpa using (Stp.push Nil s₁ σ₁ _ s₁.toks).reps e2 e1)) (e2.push _) (e3.trans (Stp.push Nil s₁ σ₁ _ s₁.toks)) e4.2
theorem W_List {elts : List Expr} {pos : Pos} {P : V → Sg → Prop} (h : WL C R env loc (spliced (backTo pos (starEach elts env))) (KLi P) σ) : WE C R env loc (eval (.List elts pos) env) P σ := by
  intro A s Q E r a f q
  refine PyProof.Rows.List_ (h A s _ E r a f fun vs xs s₁ σ₁ e1 e2 e3 e4 => ?_)
  have hl := e1.length
  refine wpAny_newObj_type ?_ (by show vs.toArray.size ≤ sizeLine; rw [List.size_toArray, sizeLine_eq]; omega)
  have ro : RepO C (s₁.heap.push (lstObj vs.toArray 0)) s₁.heap.objs.size (.list xs) := ⟨vs.toArray, 0, Heap.get?_push_size _ rfl, by simpa using (Stp.push Nil s₁ σ₁ (lstObj vs.toArray 0) s₁.toks).reps e2 e1⟩
  exact q _ _ { s₁ with heap := s₁.heap.push (lstObj vs.toArray 0) } _ (.ref _) (e2.pushA _ _ ro) (e3.trans (Stp.pushA Nil s₁ σ₁ _ _ s₁.toks)) (e4.2 _ e2.fresh)

/-- an empty dict may be told in three ways -/
noncomputable def emptyD : AO → Prop
  | .dictI f n => f = (fun _ => none) ∧ n = 0
  | .dictS f n => f = (fun _ => none) ∧ n = 0
  | .dictT f n => f = (fun _ => none) ∧ n = 0
  | _ => False
theorem newDict {h : Heap} {ao : AO} (e : emptyD ao) : RepO C (h.push { cls := .type "dict", data := .dict #[] }) h.objs.size ao := by
  cases ao with
  | dictI f n =>
    refine xE0A1 e fun hr1_ hr2_ => ?_
    try clear e
    obtain rfl := hr1_
    obtain rfl := hr2_
    exact ⟨fun _ => none, Heap.MapOf.new _, Heap.DictLe.new _, fun _ => trivial⟩
  | dictS f n =>
    refine xE0A1 e fun hr3_ hr4_ => ?_
    try clear e
    obtain rfl := hr3_
    obtain rfl := hr4_
    exact ⟨fun _ => none, Heap.MapOf.new _, Heap.DictLe.new _, fun _ => trivial⟩
  | dictT f n =>
    refine xE0A1 e fun hr5_ hr6_ => ?_
    try clear e
    obtain rfl := hr5_
    obtain rfl := hr6_
    exact ⟨[], Heap.DictOfH.new _, Nat.le_refl _, fun _ => trivial⟩
  | _ => exact e.elim
theorem W_Dict (ao : AO) (he : emptyD ao) {pos : Pos} {P : V → Sg → Prop} (h : ∀ a, σ a = none → P (.ref a) (upd σ a ao)) : WE C R env loc (eval (.Dict [] [] pos) env) P σ := by
  intro A s Q E r a f q
  exact wpAny_Dict_empty (q _ _ { s with heap := s.heap.push _ } _ (.ref _) (a.pushA _ _ (newDict he)) (Stp.pushA Nil s σ _ _ s.toks) (h _ a.fresh))

/-! ### built-in functions and types called -/
theorem W_CallB {g : Str} {id : String} {gp pos : Pos} {args : List Expr} {P : V → Sg → Prop} (hv : nsIn C.K mainGlobals g = some none) (hb : bootBuiltins g = some (.builtin id)) (hn : g ≠ "__name__") (hk : env.kindOf g = some .globalImplicit)
    (h : WL C R env loc (spliced (backTo pos (starEach args env))) (Cb C R env loc id P) σ)
    (hplain : (backTo pos (starEach args env)).any (·.1) = false := by rfl) (hd : (g == ("__debug__" : Str)) = false := by decide) : WE C R env loc (eval (.Call (.Name g gp) args [] pos) env) P σ := by
  intro A s Q E r a f k
  refine wpAny_Call_Name_kw (wp_NameB a f hv hb hn hk ?_ hd)
  refine Calls.callWith_builtin hplain (evalArgs_of hplain (h A s _ E r a f fun vs xs s₁ σ₁ e1 e2 e3 e4 => ?_))
  exact e4 _ A s₁ Q E r e2 (f.step a e3) e1 fun v x s' σ' q1 q2 q3 q4 => k v x s' σ' q1 q2 (e3.trans q3) q4

noncomputable def CallT (C : Cx) (R : Rm) (env : Env) (loc : Loc) (T : String) (xs : List V) (P : V → Sg → Prop) (σ : Sg) : Prop :=
  ∀ vals A s Q E, R.P A → At C s.heap σ → Fo C s.heap σ env loc → Reps s.heap vals xs →
    (∀ v x s' σ', Rep s'.heap v x → At C s'.heap σ' → Stp Nil s σ s' σ' → P x σ' → Q v s') → wpAny (model C.prog C.w) A (call (.type T) vals) Q E s
noncomputable abbrev Ct (C : Cx) (R : Rm) (env : Env) (loc : Loc) (T : String) (P : V → Sg → Prop) (xs : List V) (σ₂ : Sg) : Prop := CallT C R env loc T xs P σ₂
theorem W_CallT {g : Str} {T : String} {gp pos : Pos} {args : List Expr} {P : V → Sg → Prop} (hv : nsIn C.K mainGlobals g = some none) (hb : bootBuiltins g = some (.type T)) (hn : g ≠ "__name__") (hk : env.kindOf g = some .globalImplicit)
    (h : WL C R env loc (spliced (backTo pos (starEach args env))) (Ct C R env loc T P) σ)
    (hplain : (backTo pos (starEach args env)).any (·.1) = false := by rfl) (hd : (g == ("__debug__" : Str)) = false := by decide) : WE C R env loc (eval (.Call (.Name g gp) args [] pos) env) P σ := by
  intro A s Q E r a f k
  refine wpAny_Call_Name_kw (wp_NameB a f hv hb hn hk ?_ hd)
  refine PyProof.Rows.callWith_type hplain (evalArgs_of hplain (h A s _ E r a f fun vs xs s₁ σ₁ e1 e2 e3 e4 => ?_))
  exact e4 _ A s₁ Q E r e2 (f.step a e3) e1 fun v x s' σ' q1 q2 q3 q4 => k v x s' σ' q1 q2 (e3.trans q3) q4

theorem B_len {a : Addr} {vs : List V} {P : V → Sg → Prop} (e : σ a = some (.list vs)) (hn : vs.length ≤ 1000000) (h : P (.int vs.length) σ) : CallB C R env loc "len" [.ref a] P σ := by
  intro vals A s Q E r at_ f hv k
  refine xE1A1 hv.one fun _ hr1_ h1 => ?_
  obtain rfl := hr1_
  obtain rfl := h1.ref_inv
  · skip
    refine xE2A1 (at_.list e) fun items n he hr => ?_
    have hlen : items.size = vs.length := by have := hr.length; rwa [Array.length_toList] at this
    refine PyProof.Rows.len_list ⟨_, he, rfl, n, rfl⟩ (by omega) ?_
    rw [hlen]
    exact k _ _ { s with toks := s.toks + 1 + 1 } σ (.int _ _) at_ (.toks ..) h
theorem T_set {P : V → Sg → Prop} (h : ∀ a, σ a = none → P (.ref a) (upd σ a (.set (fun _ => false) 0))) : CallT C R env loc "set" [] P σ := by
  intro vals A s Q E r at_ f hv k
  cases hv
  refine call_set_0 fun led => ?_
  have ro : RepO C (s.heap.push { cls := .type "set", dict := none, data := .set #[] 0 (.fresh 0 0 led) }) s.heap.objs.size (.set (fun _ => false) 0) :=
    ⟨0, Nat.le_refl _, _, #[], 0, _, Heap.get?_push_size _ rfl, ⟨rfl, rfl, rfl⟩, rfl, fun e he => by simp at he, fun k => by simp, by decide, by rfl, rfl⟩
  exact k _ _ { s with heap := s.heap.push _ } _ (.ref _) (at_.pushA _ _ ro) (Stp.pushA Nil s σ _ _ s.toks) (h _ at_.fresh)
theorem T_tuple {a : Addr} {vs : List V} {P : V → Sg → Prop} (e : σ a = some (.list vs)) (hn : vs.length ≤ 100000) (h : P (.tup vs) σ) : CallT C R env loc "tuple" [.ref a] P σ := by
  intro vals A s Q E r at_ f hv k
  refine xE1A1 hv.one fun _ hr2_ h1 => ?_
  obtain rfl := hr2_
  obtain rfl := h1.ref_inv
  · skip
    refine xE2A1 (at_.list e) fun items n he hr => ?_
    have hlen : items.size = vs.length := by have := hr.length; rwa [Array.length_toList] at this
    refine PySem.call_tuple_list ⟨_, he, rfl, n, rfl⟩ (fun h' hk => ?_) (by rw [sizeLine_eq]; omega)
    have a1 := at_.grow hk
    have s1 : Stp Nil s σ { s with heap := h' } σ := Stp.grow Nil s σ s.toks hk
    have s2 := Stp.push Nil { s with heap := h' } σ (tupObj items 0) s.toks
    refine k _ _ { s with heap := h'.push (tupObj items 0) } σ (.tup (Heap.get?_push_size _ rfl) ((s1.trans s2).reps at_ hr)) (a1.push _) (s1.trans s2) h
theorem T_list {a : Addr} {vs : List V} {P : V → Sg → Prop} (e : σ a = some (.list vs)) (hn : vs.length ≤ 100000) (h : ∀ b, σ b = none → P (.ref b) (upd σ b (.list vs))) : CallT C R env loc "list" [.ref a] P σ := by
  intro vals A s Q E r at_ f hv k
  refine xE1A1 hv.one fun _ hr3_ h1 => ?_
  obtain rfl := hr3_
  obtain rfl := h1.ref_inv
  · skip
    refine xE2A1 (at_.list e) fun items n he hr => ?_
    have hlen : items.size = vs.length := by have := hr.length; rwa [Array.length_toList] at this
    refine PySem.call_list_seq a (.inl rfl) he rfl rfl (fun h' c' hk hg => ?_) (by rw [sizeLine_eq]; omega)
    have a1 := at_.grow hk
    have s1 : Stp Nil s σ { s with heap := h' } σ := Stp.grow Nil s σ s.toks hk
    have ro : RepO C h' s.heap.objs.size (.list vs) := ⟨items, c', hg, s1.reps at_ hr⟩
    have a2 : At C h' (upd σ s.heap.objs.size (.list vs)) := by
      refine ⟨a1.keep, fun b o eb => ?_, fun b o eb => ?_⟩
      · by_cases q : b = s.heap.objs.size
        · subst q; rw [upd_same] at eb; cases eb; exact ro
        · rw [upd_ne _ _ q] at eb; exact a1.objs b o eb
      · by_cases q : b = s.heap.objs.size
        · subst q; exact at_.base_new
        · rw [upd_ne _ _ q] at eb; exact a1.new b o eb
    have s2 : Stp Nil s σ { s with heap := h' } (upd σ s.heap.objs.size (.list vs)) := by
      refine ⟨s1.keep, s1.there, fun b o eb hb => ?_, rfl, rfl⟩
      rw [upd_ne _ _ (fun q => by subst q; exact absurd (Heap.lt_size eb) (Nat.lt_irrefl _))]
      exact hb
    exact k _ _ { s with heap := h' } _ (.ref _) a2 s2 (h _ at_.fresh)

/-! ### tuples taken apart -/
theorem S_AssignTup2 {x1 x2 : Str} {k : Nat} {p1 p2 tpos pos : Pos} {value : Expr} (hk1 : env.kindOf x1 = some .local) (hk2 : env.kindOf x2 = some .local)
    (h : WE C R env loc (eval value env) (fun y σ₁ => ∃ y1 y2, y = .tup [y1, y2] ∧ PS .next (setL (setL loc x1 y1) x2 y2) σ₁) σ)
    (hs : swapsWithSole [.Tuple [.Name x1 p1, .Name x2 p2] k tpos] value pos.line env = pure false := by rfl)
    (hw : swappedStores [.Tuple [.Name x1 p1, .Name x2 p2] k tpos] value env = pure none := by rfl) :
    WS C R env X (exec (.Assign [.Tuple [.Name x1 p1, .Name x2 p2] k tpos] value pos) env) PS loc σ := by
  intro A s Q E r a f q qx
  refine PyProof.Rows.Assign_Tuple (h A s _ E r a f fun v y s₁ σ₁ e1 e2 e3 e4 => ?_) hs hw
  refine Classical.byContradiction fun hG => ?_
  refine xE2A1 e4 fun y1 y2 hr4_ hP => ?_
  try clear e4
  obtain rfl := hr4_
  refine hG ?_
  clear hG
  have f1 := f.step a e3
  cases e1 with
  | tup he hr =>
    rename_i t items n
    have hl := hr.length
    rw [Array.length_toList] at hl
    refine PyProof.Rows.assign_Tuple_tuple (R.handled A r) ⟨_, he, rfl, n, rfl⟩ (by rw [hl]; rfl) rfl fun h' hx => ?_
    have hk' : ∀ b o, s₁.heap.get? b = some o → h'.get? b = some o := fun b o e => hx b o (fun q => by subst q; exact absurd (Heap.lt_size e) (Nat.lt_irrefl _)) e
    have a2 := e2.grow hk'
    have f2 := f1.grow hk'
    have st2 : Stp Nil s₁ σ₁ { s₁ with heap := h' } σ₁ := Stp.grow Nil s₁ σ₁ s₁.toks hk'
    have hr2 := st2.reps e2 hr
    generalize items.toList = l at hr2
    cases hr2 with | cons r1 hr2 => cases hr2 with | cons r2 hr2 => cases hr2 with
    | nil =>
      show wpAny _ _ (assignInOrder [assign (.Name x1 p1) env, assign (.Name x2 p2) env] _) _ _ _
      refine PyProof.Rows.assignInOrder_cons (PyProof.Rows.assign_Name (wp_store (s := { s₁ with heap := h' }) a2 f2 (.inl hk1) r1 fun s3 a3 f3 st3 kp => ?_))
      refine PyProof.Rows.assignInOrder_cons (PyProof.Rows.assign_Name (wp_store a3 f3 (.inl hk2) (kp _ _ r2) fun s4 a4 f4 st4 _ => ?_))
      refine PyProof.Rows.assignInOrder_nil ?_
      exact q _ _ s4 _ σ₁ .next a4 f4 ((((e3.trans st2).own).transO f2 st3).transO f3 st4) hP

/-! ### tests of values -/
theorem wp_truthy {A : Around} {s : Shared} {v : Value} {x : V} {b : Bool} {Q : Bool → Shared → Prop} {E : Value → Shared → Prop} (a : At C s.heap σ) (hv : Rep s.heap v x) (hb : truthOf σ x = some b) (hn : ∀ c vs, x = .ref c → σ c = some (.list vs) → vs.length ≤ 1000000) (h : ∀ t, Q b { s with toks := t }) : wpAny (model C.prog C.w) A (truthy v) Q E s := by
  cases hv with
  | none => cases hb; exact fun _ _ _ => h s.toks
  | bool b' => cases hb; exact wpAny_truthy_bool (h s.toks)
  | int i t => cases hb; exact PySem.P.truthy_int (h s.toks)
  | str x t => cases hb
  | tup e r => cases hb
  | ref c =>
    unfold truthOf at hb
    dsimp only at hb
    split at hb
    · rename_i vs e
      cases hb
      refine xE2A1 (a.list e) fun items n he hr => ?_
      have hlen : items.size = vs.length := by have := hr.length; rwa [Array.length_toList] at this
      have := hn _ _ rfl e
      refine PySem.wpAny_truthy_list ⟨_, he, rfl, n, rfl⟩ (by omega) ?_
      have : items.isEmpty = vs.isEmpty := by
        cases vs <;> simp_all [Array.isEmpty]
      rw [this]
      exact h _
    · cases hb
noncomputable abbrev KT (P : Bool → Sg → Prop) (x : V) (σ₁ : Sg) : Prop := ∃ b, truthOf σ₁ x = some b ∧ (∀ c vs, x = .ref c → σ₁ c = some (.list vs) → vs.length ≤ 1000000) ∧ P b σ₁
theorem W_testV {e : Expr} {P : Bool → Sg → Prop} (h : WE C R env loc (eval e env) (KT P) σ)
    (he : isTrue e env (eval e env) = (do let v ← eval e env; standAt e.pos; holding [v] (truthy v)) := by rfl) : WB C R env loc (isTrue e env (eval e env)) P σ := by
  intro A s Q E r a f k
  refine wpAny_isTrue_value (h A s _ E r a f fun v x s₁ σ₁ e1 e2 e3 e4 => ?_) he
  refine xE1A2 e4 fun b hb hn hP => ?_
  try clear e4
  exact wp_truthy e2 e1 hb hn fun t => k b b { s₁ with toks := t } σ₁ rfl e2 (e3.trans (.toks ..)) hP

theorem W_Neg {e : Expr} {pos : Pos} {P : V → Sg → Prop} (h : WE C R env loc (eval e env) (fun x σ₁ => ∃ i, x = .int i ∧ P (.int (-i)) σ₁) σ) : WE C R env loc (eval (.UnaryOp .USub e pos) env) P σ := by
  intro A s Q E r a f k
  refine PySem.wpAny_UnaryOp (h A s _ E r a f fun v x s₁ σ₁ e1 e2 e3 e4 => ?_)
  refine xE1A1 e4 fun i hr5_ hP => ?_
  try clear e4
  obtain rfl := hr5_
  cases e1
  exact PySem.P.neg_int (k _ _ { s₁ with toks := s₁.toks + 1 } σ₁ (.int _ _) e2 (e3.trans (.toks ..)) hP)
theorem W_IfExp {test body orelse : Expr} {pos : Pos} {P : V → Sg → Prop} (h : WB C R env loc (isTrue test env (eval test env)) (Br (WE C R env loc (eval body env) P) (WE C R env loc (eval orelse env) P)) σ) :
    WE C R env loc (eval (.IfExp test body orelse pos) env) P σ := by
  intro A s Q E r a f k
  refine wpAny_IfExp (h A s _ E r a f fun b b' s₁ σ₁ e1 e2 e3 e4 => ?_)
  cases e1
  have f1 := f.step a e3
  cases b
  · exact br_of e4 A s₁ Q E r e2 f1 fun v x s' σ' z1 z2 z3 z4 => k v x s' σ' z1 z2 (e3.trans z3) z4
  · exact br_ot e4 A s₁ Q E r e2 f1 fun v x s' σ' z1 z2 z3 z4 => k v x s' σ' z1 z2 (e3.trans z3) z4
theorem Op_isNone {x : V} {b : Bool} {P : V → Sg → Prop} (hb : (match x with | .none => some true | .ref _ => some false | .tup _ => some false | .int _ => some false | _ => none) = some b) (h : P (.bool b) σ) : OpV C R env loc (compareOp .Is) x .none P σ := by
  intro u v A s Q E r a f hu hv k
  cases hv
  cases hu <;> first | (cases hb; done) | (cases hb; refine wpAny_is_plain rfl ?_; exact k _ _ s σ (.bool _) a (.refl ..) h)
end
end Mine
end
section
set_option Elab.async false
set_option maxRecDepth 100000
set_option linter.unusedVariables false
namespace Mine
open PySem PySem.W

/-! ### dict stores with the size told -/
section
variable {prog : Program} {w : World} {K : Type} [DecidableEq K] {knd : KeyKind prog w K} {A : Around} {E : Value → Shared → Prop} {s : Shared} {d : Addr} {k : K} {key : Value}
theorem dictLe_of {h' : Heap} {o : Obj} {es : Array DictEntry} {ep n : Nat} (e : h'.get? d = some o) (hd : o.data = .dict es ep) (hn : es.size ≤ n) : h'.DictLe d n := by
  intro o' es' ep' e' hd'
  rw [e] at e'; cases e'
  rw [hd] at hd'; cases hd'
  exact hn
theorem wp_dictSet_le {f} {v : Value} {n : Nat} {Q : Unit → Shared → Prop} (hkey : knd.is k key = true) (hm : s.heap.MapOf knd d f) (hle : s.heap.DictLe d n) (hn : n ≤ sizeLine)
    (hQ : ∀ h', h'.MapOf knd d (fun x => if x = k then some v else f x) → h'.DictLe d (n + 1) → Heap.SameBut d s.heap h' → Q () { s with heap := h', toks := s.toks + 1 }) :
    wpAny (model prog w) A (dictSet d key v) Q E s := by
  refine xE3A4 hm fun o es ep ho hc hd hk hf => ?_
  try clear hm
  have hsz := hle _ _ _ ho hd
  unfold dictSet
  try with_reducible refine wpAny_holding ?_
  refine wpAny_bind (knd.pyHash hkey ?_)
  unfold dictSetHashed
  try with_reducible refine wpAny_holding ?_
  refine wpAny_bind (wpAny_dictFind_of (s := { s with toks := s.toks + 1 }) hkey ho hd hk ?_)
  cases hi : es.findIdx? fun e => knd.is k e.key with
  | some i =>
    have hnew := fun g => Heap.get?_update_self (h := s.heap) (a := d) (Obj.mapDict g) ho (Obj.isFreed_of_dict (Obj.data_mapDict hd _))
    refine wpAny_bind (wpAny_rule (wpAny_bind (wpAny_updateDict (s := { s with toks := s.toks + 1 }) ho hd (wpAny_point (hQ _ ⟨_, _, ep, hnew _, hc.mapDict _, Obj.data_mapDict hd _, hk.modify _ _, fun x => ?_⟩ (dictLe_of (hnew _) (Obj.data_mapDict hd _) ?_) (Heap.SameBut.update ..))))))
    · rw [findBy_modify knd.is knd.inj es k x v i hi, hf]
    · rw [Array.size_modify]; omega
  | none =>
    have hnew := fun g => Heap.get?_update_self (h := s.heap) (a := d) (Obj.mapDictKeys g) ho (Obj.isFreed_of_dict (Obj.data_mapDictKeys hd _))
    refine wpAny_bind (wpAny_rule (wpAny_updateDictKeys (hz := Nat.le_trans hsz hn) (s := { s with toks := s.toks + 1 }) ho hd (hQ _ ⟨_, _, ep + 1, hnew _, hc.mapDictKeys _, Obj.data_mapDictKeys hd _, hk.push hkey _, fun x => ?_⟩ (dictLe_of (hnew _) (Obj.data_mapDictKeys hd _) ?_) (Heap.SameBut.update ..))))
    · rw [findBy_push knd.is es k x _ _ v (KeyKind.is_eq_decide hkey) hi, hf]
    · rw [Array.size_push]; omega
theorem wp_setItem_le {f} {v : Value} {n : Nat} {Q : Unit → Shared → Prop} (hkey : knd.is k key = true) (hm : s.heap.MapOf knd d f) (hle : s.heap.DictLe d n) (hn : n ≤ sizeLine)
    (hQ : ∀ h', h'.MapOf knd d (fun x => if x = k then some v else f x) → h'.DictLe d (n + 1) → Heap.SameBut d s.heap h' → Q () { s with heap := h', toks := s.toks + 1 }) :
    wpAny (model prog w) A (setItem (.ref d) key v) Q E s := by
  unfold setItem
  try with_reducible refine wpAny_holding ?_
  refine wpAny_bind (wpAny_sequenceKey hm.typeIs (by decide) ?_)
  refine wpAny_bind (wpAny_callSpecial?_slot (name := Str.ofString "__setitem__") hm.typeIs slot_dict_setitem
    (wpAny_call_entry slot_dict_setitem hm.typeIs entry_dict_setitem ?_ (args_dict_setitem _ _ _)))
  show wpAny _ _ (Builtin.Dict.notOrdered "__setitem__" ⟨[.ref d, key, v], []⟩ >>= _) _ _ s
  refine wpAny_bind (wpAny_notOrdered_dict hm.typeIs ?_)
  show wpAny _ _ (dictSet d key v >>= _) _ _ s
  exact wpAny_bind (wp_dictSet_le hkey hm hle hn fun h' hm' hl' hs' => wpAny_pure ⟨.none, rfl, wpAny_pure (hQ h' hm' hl' hs')⟩)

theorem wp_setItem_lst {l : Addr} {items : Array Value} {n : Nat} {k : Int} {t : Tok} {v : Value} {Q : Unit → Shared → Prop} (ho : s.heap.get? l = some (lstObj items n))
    (h0 : 0 ≤ k) (hfit : k < 1000000000) (hn : k < items.size) (hQ : Q () { s with heap := s.heap.update l (Obj.mapSeq (·.setIfInBounds k.toNat v)) }) :
    wpAny (model prog w) A (setItem (.ref l) (.int k t) v) Q E s := by
  have hT : s.TypeIs (.ref l) "list" := ⟨_, ho, rfl⟩
  have hd : (lstObj items n).data = .seq items n := rfl
  have hfi : Builtin.List.listFitsIndex k = true := fitsIndex_of h0 (by omega)
  clear hfit
  unfold setItem
  try with_reducible refine wpAny_holding ?_
  refine wpAny_bind (wpAny_sequenceKey hT (by decide) ?_)
  refine wpAny_bind (wpAny_callSpecial?_slot (name := Str.ofString "__setitem__") hT slot_list_setitem
    (wpAny_call_entry slot_list_setitem hT entry_list_setitem ?_ (args_list_setitem _ _ _)))
  show wpAny _ _ (Builtin.List.listSubscript? (.int k t) >>= _) _ _ s
  refine wpAny_bind (wpAny_listSubscript_int hfi ?_)
  clear hfi
  refine xE1A0 (Int.eq_ofNat_of_zero_le h0) fun j hr1_ => ?_
  obtain rfl := hr1_
  have hj : j < items.size := by omega
  have hx' : items[j]? = some items[j] := Array.getElem?_eq_getElem hj
  show wpAny _ _ ((seqItemAt l j >>= fun r => pure (r.map (j, ·))) >>= _) _ _ s
  refine wpAny_bind (wpAny_bind (wpAny_seqItemAt ho hd (wpAny_pure ?_)))
  rw [hx']
  show wpAny _ _ (setSeqItemAt l j v >>= _) _ _ s
  refine wpAny_bind (wpAny_setSeqItemAt ho hd ?_)
  first
    | exact wpAny_bind (wpAny_pure (wpAny_pure ⟨.none, rfl, wpAny_pure hQ⟩))
    | exact wpAny_pure ⟨.none, rfl, wpAny_pure hQ⟩
end

section
variable {C : Cx} {R : Rm} {env : Env} {loc : Loc} {σ : Sg}

theorem RepOpt.upd {K : Type} [DecidableEq K] {h h' : Heap} {N : Addr → Prop} (k : Keeps N h h') (nt : NoTup N h) {g : K → Option Value} {f : K → Option V} {i : K} {v : Value} {y : V} (r : ∀ j, RepOpt h (g j) (f j)) (rv : Rep h v y) (j : K) : RepOpt h' (if j = i then some v else g j) (if j = i then some y else f j) := by
  by_cases q : j = i
  · rw [if_pos q, if_pos q]; exact rv.keep k nt
  · rw [if_neg q, if_neg q]; exact (r j).keep k nt

theorem Set_dictI {a : Addr} {i : Int} {n : Nat} {f : Int → Option V} {y : V} {P : Sg → Prop} (e : σ a = some (.dictI f n)) (hn : n ≤ 100000) (h : P (upd σ a (.dictI (fun j => if j = i then some y else f j) (n + 1)))) : SetV C R env loc (.ref a) (.int i) y P σ := by
  intro ov iv vv A s Q E r at_ fo h1 h2 h3 k
  cases h1; cases h2
  refine xE1A2 (at_.objs a _ e) fun g hm hl hf => ?_
  refine wp_setItem_le (knd := IK C) (k := i) (intKind_is _ _ _ _) hm hl (by rw [sizeLine_eq]; omega) fun h' hm' hl' hs => ?_
  have nt : NoTup (fun b => b = a) s.heap := fun b n o eo => by subst n; exact (at_.objs _ _ e).noTup o eo
  have ro : RepO C h' a (.dictI (fun j => if j = i then some y else f j) (n + 1)) := ⟨_, hm', hl', RepOpt.upd (N := fun b => b = a) (fun b o eb n => (hs.2 b n).trans eb) nt hf h3⟩
  exact k { s with heap := h', toks := s.toks + 1 } _ (at_.set e hs ro) (Stp.set Nil s _ e (at_.set e hs ro) hs) h
theorem Set_dictS {a : Addr} {i : Str} {n : Nat} {f : Str → Option V} {y : V} {P : Sg → Prop} (e : σ a = some (.dictS f n)) (hn : n ≤ 100000) (h : P (upd σ a (.dictS (fun j => if j = i then some y else f j) (n + 1)))) : SetV C R env loc (.ref a) (.str i) y P σ := by
  intro ov iv vv A s Q E r at_ fo h1 h2 h3 k
  cases h1; cases h2
  refine xE1A2 (at_.objs a _ e) fun g hm hl hf => ?_
  refine wp_setItem_le (knd := SK C) (k := i) (strKind_is _ _ _ _) hm hl (by rw [sizeLine_eq]; omega) fun h' hm' hl' hs => ?_
  have nt : NoTup (fun b => b = a) s.heap := fun b n o eo => by subst n; exact (at_.objs _ _ e).noTup o eo
  have ro : RepO C h' a (.dictS (fun j => if j = i then some y else f j) (n + 1)) := ⟨_, hm', hl', RepOpt.upd (N := fun b => b = a) (fun b o eb n => (hs.2 b n).trans eb) nt hf h3⟩
  exact k { s with heap := h', toks := s.toks + 1 } _ (at_.set e hs ro) (Stp.set Nil s _ e (at_.set e hs ro) hs) h
theorem Set_dictT {a : Addr} {i : List Int} {n : Nat} {f : List Int → Option V} {y : V} {P : Sg → Prop} (e : σ a = some (.dictT f n)) (hn : n ≤ 100000) (hi : f i = none) (h : P (upd σ a (.dictT (fun j => if j = i then some y else f j) (n + 1)))) : SetV C R env loc (.ref a) (.tup (i.map .int)) y P σ := by
  intro ov iv vv A s Q E r at_ fo h1 h2 h3 k
  cases h1
  obtain ⟨t, rfl, hk⟩ := tupleKey (C := C) h2
  refine xE1A2 (at_.objs a _ e) fun xs hm hl hf => ?_
  have hu : (TK C).room A.in1 := by have := R.units A r; show A.units + 1 < cLine; omega
  have hnone : atKey xs i = none := by
    have := hf i
    rw [hi] at this
    exact Option.map_eq_none_iff.mp this.isNone
  refine wpAny_setItem_heap hu hk hm (fun h' hm' hs => ?_) (by rw [sizeLine_eq]; omega)
  rw [storedH_new hnone] at hm'
  have nt : NoTup (fun b => b = a) s.heap := fun b n o eo => by subst n; exact (at_.objs _ _ e).noTup o eo
  have hkp : Keeps (fun b => b = a) s.heap h' := fun b o eb n => (hs.2 b n).trans eb
  have ro : RepO C h' a (.dictT (fun j => if j = i then some y else f j) (n + 1)) := by
    refine ⟨_, hm', by simp; omega, fun j => ?_⟩
    by_cases q : j = i
    · subst q
      have : atKey (xs ++ [(j, t, vv)]) j = some (t, vv) := by
        unfold atKey at hnone ⊢
        rw [Option.map_eq_none_iff] at hnone
        simp [List.find?_append, hnone]
      rw [this]; show RepOpt h' _ (if j = j then some y else f j); rw [if_pos rfl]
      exact h3.keep hkp nt
    · have : atKey (xs ++ [(i, t, vv)]) j = atKey xs j := by
        unfold atKey
        rw [List.find?_append]
        have : ([(i, t, vv)] : List (List Int × Addr × Value)).find? (fun x => decide (x.1 = j)) = none := by simp [Ne.symm q]
        rw [this, Option.or_none]
      rw [this]; show RepOpt h' _ (if j = i then some y else f j); rw [if_neg q]
      exact (hf j).keep hkp nt
  exact k { s with heap := h', toks := s.toks + (TK C).draws i } _ (at_.set e hs ro) (Stp.set Nil s _ e (at_.set e hs ro) hs) h
theorem Set_list {a : Addr} {i : Int} {vs : List V} {y : V} {P : Sg → Prop} (e : σ a = some (.list vs)) (h0 : 0 ≤ i) (hi : i < vs.length) (hn : vs.length ≤ 1000000) (h : P (upd σ a (.list (vs.set i.toNat y)))) : SetV C R env loc (.ref a) (.int i) y P σ := by
  intro ov iv vv A s Q E r at_ fo h1 h2 h3 k
  cases h1; cases h2
  refine xE2A1 (at_.list e) fun items n he hr => ?_
  have hlen : items.size = vs.length := by have := hr.length; rwa [Array.length_toList] at this
  refine wp_setItem_lst he h0 (by omega) (by omega) ?_
  have U := list_upd (ws := vs.set i.toNat y) at_ e he (·.setIfInBounds i.toNat vv) fun h' hk nt => by
    rw [Array.toList_setIfInBounds]; exact (hr.keep hk nt).set (h3.keep hk nt)
  exact k { s with heap := _ } _ U.1 (U.2 s.toks) h

/-! ### in -/
theorem O_in_dictI {a : Addr} {i : Int} {n : Nat} {f : Int → Option V} {P : V → Sg → Prop} (e : σ a = some (.dictI f n)) (h : P (.bool (f i).isSome) σ) : OpV C R env loc (compareOp .In) (.int i) (.ref a) P σ := by
  intro u v A s Q E r at_ fo hu hv k
  refine xE1A0 hu.int_inv fun _ hr2_ => ?_
  obtain rfl := hr2_
  obtain rfl := hv.ref_inv
  refine xE1A2 (at_.objs a _ e) fun g hm hl hf => ?_
  have hh := hf i
  have : (g i).isSome = (f i).isSome := by cases h1 : g i <;> cases h2 : f i <;> rw [h1, h2] at hh <;> first | rfl | exact hh.elim
  refine wpAny_in_of (knd := IK C) (k := i) (intKind_is _ _ _ _) (at_.notSys e) hm ?_
  rw [this]
  exact k _ _ { s with toks := s.toks + 1 } σ (.bool _) at_ (.toks ..) h
theorem O_notIn_dictI {a : Addr} {i : Int} {n : Nat} {f : Int → Option V} {P : V → Sg → Prop} (e : σ a = some (.dictI f n)) (h : P (.bool (!(f i).isSome)) σ) : OpV C R env loc (compareOp .NotIn) (.int i) (.ref a) P σ := by
  intro u v A s Q E r at_ fo hu hv k
  refine xE1A0 hu.int_inv fun _ hr3_ => ?_
  obtain rfl := hr3_
  obtain rfl := hv.ref_inv
  refine xE1A2 (at_.objs a _ e) fun g hm hl hf => ?_
  have hh := hf i
  have : (g i).isSome = (f i).isSome := by cases h1 : g i <;> cases h2 : f i <;> rw [h1, h2] at hh <;> first | rfl | exact hh.elim
  refine wpAny_notIn_of (knd := IK C) (k := i) (intKind_is _ _ _ _) (at_.notSys e) hm ?_
  rw [this]
  exact k _ _ { s with toks := s.toks + 1 } σ (.bool _) at_ (.toks ..) h
theorem O_notIn_set {a : Addr} {i : Int} {n : Nat} {f : Int → Bool} {P : V → Sg → Prop} (e : σ a = some (.set f n)) (h : P (.bool (!f i)) σ) : OpV C R env loc (compareOp .NotIn) (.int i) (.ref a) P σ := by
  intro u v A s Q E r at_ fo hu hv k
  refine xE1A0 hu.int_inv fun _ hr4_ => ?_
  obtain rfl := hr4_
  obtain rfl := hv.ref_inv
  refine xE1A1 (at_.objs a _ e) fun m hm1 hm => ?_
  refine wpAny_notInSet_of (knd := IK C) (k := i) (intKind_is _ _ _ _) rfl hm ?_
  exact k _ _ { s with toks := s.toks + 1 } σ (.bool _) at_ (.toks ..) h
end
end Mine
end
section
set_option Elab.async false
set_option maxRecDepth 100000
set_option linter.unusedVariables false
namespace Mine
open PySem PySem.W

/-! ### slices -/
theorem cut_take (sel : Nat → Bool) (n a : Nat) (l : List Value) : ∀ (i : Nat), i + l.length = n → (∀ k, k < n → sel k = decide (a ≤ k)) →
    (l.zipIdx i).filterMap (fun p => if sel p.2 then none else some p.1) = l.take (a - i) := by
  induction l with
  | nil => intro i _ _; rw [List.take_nil]; rfl
  | cons x r ih =>
    intro i hi h
    rw [List.zipIdx_cons, List.filterMap_cons]
    have hi' : i + (r.length + 1) = n := hi
    have hs := h i (by lia)
    have ih := ih (i + 1) (by lia) h
    by_cases q : a ≤ i
    · rw [hs, decide_eq_true q, if_pos rfl, ih, Nat.sub_eq_zero_of_le q, Nat.sub_eq_zero_of_le (Nat.le_succ_of_le q)]; rfl
    · have e1 : a - i = (a - (i + 1)) + 1 := by lia
      rw [hs, decide_eq_false q, ih, e1]; rfl
section
variable {prog : Program} {w : World} {A : Around} {E : Value → Shared → Prop} {s : Shared}
theorem wp_delSlice {l sl : Addr} {items : Array Value} {n a : Nat} {t : Tok} {Q : Unit → Shared → Prop} (ho : s.heap.get? l = some (lstObj items n))
    (hs : s.heap.IsSliceOf sl (.int (a : Int) t) .none .none) (ha : a ≤ items.size) (hsz : items.size ≤ sizeLine)
    (hQ : ∀ h' n', h'.get? l = some (lstObj (items.toList.take a).toArray n') → Heap.SameBut l s.heap h' → Q () { s with heap := h' }) : wpAny (model prog w) A (delItem (.ref l) (.ref sl)) Q E s := by
  have hT : s.TypeIs (.ref l) "list" := ⟨_, ho, rfl⟩
  have hd : (lstObj items n).data = .seq items n := rfl
  refine xE1A2 (id hs) fun os hos hcs hds => ?_
  have hTs : s.TypeIs (.ref sl) "slice" := ⟨os, hos, hcs⟩
  refine wpAny_delItem_slot hT (by decide) F.slot_list_delitem (wpAny_call_entry F.slot_list_delitem hT F.entry_list_delitem ?_ (F.args_list_delitem_2 _ _))
  show wpAny _ _ (Builtin.List.listSubscript? (.ref sl) >>= _) _ _ s
  refine wpAny_bind ?_
  unfold Builtin.List.listSubscript?
  refine wpAny_bind (wpAny_specialOf hTs slice_no_index ?_)
  simp only [Option.isNone_none, if_true]
  refine wpAny_pure ?_
  show wpAny _ _ (typeOf (.ref sl) >>= _) _ _ s
  refine wpAny_bind (wpAny_typeOf hTs ?_)
  rw [if_neg (by decide)]
  rw [listSliceParts_eq]
  refine wpAny_bind (wpAny_bind (wpAny_field hos hds (x := .none) rfl (wpAny_bind (wpAny_listPart .none ?_))))
  rw [if_neg (by exact Bool.false_ne_true)]
  refine wpAny_bind (wpAny_field hos hds (x := .int (a : Int) t) rfl (wpAny_bind (wpAny_listPart (.int _ _) ?_)))
  refine wpAny_bind (wpAny_field hos hds (x := .none) rfl (wpAny_bind (wpAny_listPart .none (wpAny_pure ?_))))
  refine wpAny_bind (m := Builtin.List.listItems (.ref l)) ?_
  unfold Builtin.List.listItems
  refine wpAny_bind (wpAny_seqItems ho hd (wpAny_pure ?_))
  refine wpAny_bind (wpAny_of_eq (sliceIndices_raw (some (a : Int)) none none items.size (by simp)) ?_)
  have e : sliceBounds (some (a : Int)) none none items.size = ((a : Int), (items.size : Int), 1) := by
    simp only [sliceBounds, Option.getD_none]
    have h1 : ¬ ((a : Int) < 0) := by (first | lia | omega)
    simp only [h1, if_false, show (1 : Int) > 0 by decide, if_true]
    congr 1
    (first | lia | omega)
  rw [e]
  refine wpAny_bind (wpAny_rule ?_)
  have hcut : ∀ (sel : Nat → Bool), (∀ k, k < items.size → sel k = decide (a ≤ k)) → (items.toList.zipIdx.filterMap (fun p => if sel p.2 then none else some p.1)).toArray = (items.toList.take a).toArray := by
    intro sel hsel
    rw [cut_take sel items.size a items.toList 0 (by simp) hsel]
    rfl
  have hupd : ∀ (f : Array Value → Array Value) (Q' : Unit → Shared → Prop), f items = (items.toList.take a).toArray → (∀ h' n', h'.get? l = some (lstObj (items.toList.take a).toArray n') → Heap.SameBut l s.heap h' → Q' () { s with heap := h' }) → wpAny (model prog w) A.in1 (updateSeq l f) Q' E s := by
    intro f Q' hf hq
    refine wpAny_updateSeq ho hd (hz := hsz) ?_ (by rw [hf]; simp; (first | lia | omega))
    have hg : (s.heap.update l (Obj.mapSeq f)).get? l = some (lstObj (f items) (if (f items).size == items.size then n else n + 1)) := by rw [Heap.get?_update_self _ ho rfl, mapSeq_lst]
    rw [hf] at hg
    exact hq _ _ hg (Heap.SameBut.update ..)
  refine wpAny_bind (hupd _ _ (hcut _ fun k hk => ?_) fun h' n' hg hs' => ?_)
  · show (if (1 : Int) > 0 then (decide ((a : Int) ≤ (k : Int)) && decide ((k : Int) < (items.size : Int)) && (((k : Int) - (a : Int)) % 1 == 0)) else _) = _
    rw [if_pos (by decide), Int.emod_one]
    have : (k : Int) < (items.size : Int) := by (first | lia | omega)
    simp [this]
  · refine wpAny_bind (wpAny_letGo ?_)
    exact wpAny_pure ⟨.none, rfl, hQ h' n' hg hs'⟩
end

section
variable {C : Cx} {R : Rm} {env : Env} {loc : Loc} {σ : Sg} {X : XT C R env} {PS : Fl → Loc → Sg → Prop}

theorem sliceList {s₃ : Shared} {σ₃ : Sg} {items : Array Value} {vs : List V} {vl vu : Value} {ws : List V} {pick : Array Value} (z2 : At C s₃.heap σ₃) (hr : Reps s₃.heap pick.toList ws) :
    At C ((s₃.heap.push { cls := .type "slice", data := .fields #[vl, vu, .none] }).push { cls := .type "list", data := .seq pick }) (upd σ₃ (s₃.heap.objs.size + 1) (.list ws)) ∧
    Stp Nil s₃ σ₃ { s₃ with heap := (s₃.heap.push { cls := .type "slice", data := .fields #[vl, vu, .none] }).push { cls := .type "list", data := .seq pick } } (upd σ₃ (s₃.heap.objs.size + 1) (.list ws)) := by
  have a1 := z2.push { cls := .type "slice", data := .fields #[vl, vu, .none] }
  have s1 := Stp.push Nil s₃ σ₃ { cls := .type "slice", data := .fields #[vl, vu, .none] } s₃.toks
  have ro : RepO C ((s₃.heap.push { cls := .type "slice", data := .fields #[vl, vu, .none] }).push (lstObj pick 0)) (s₃.heap.push { cls := .type "slice", data := .fields #[vl, vu, .none] }).objs.size (.list ws) :=
    ⟨pick, 0, Heap.get?_push_size _ rfl, (s1.trans (Stp.push Nil { s₃ with heap := s₃.heap.push { cls := .type "slice", data := .fields #[vl, vu, .none] } } σ₃ (lstObj pick 0) s₃.toks)).reps z2 hr⟩
  have e : (s₃.heap.push { cls := .type "slice", data := .fields #[vl, vu, .none] }).objs.size = s₃.heap.objs.size + 1 := Heap.size_push ..
  have a2 := a1.pushA (lstObj pick 0) (.list ws) ro
  have s2 := s1.trans (Stp.pushA Nil { s₃ with heap := s₃.heap.push { cls := .type "slice", data := .fields #[vl, vu, .none] } } σ₃ (lstObj pick 0) (.list ws) s₃.toks)
  rw [e] at a2 s2
  exact ⟨a2, s2⟩
theorem At.fresh1 {h : Heap} (x : At C h σ) : σ (h.objs.size + 1) = none := by
  cases q : σ (h.objs.size + 1) with
  | none => rfl
  | some o => exact absurd (Nat.lt_of_succ_lt (x.lt q)) (Nat.lt_irrefl _)

/-- xs[lo:] -/
theorem W_SliceFrom {value lo : Expr} {p pos : Pos} {P : V → Sg → Prop}
    (h : WE C R env loc (eval value env) (fun x σ₁ => WE C R env loc (eval lo env) (fun y σ₂ => ∃ (a : Addr) (vs : List V) (i : Nat), x = .ref a ∧ σ₂ a = some (.list vs) ∧ vs.length ≤ 100000 ∧ y = .int i ∧ i ≤ vs.length ∧ ∀ b, σ₂ b = none → P (.ref b) (upd σ₂ b (.list (vs.drop i)))) σ₁) σ)
    (ht : ∀ o r, letTemporaryGo value o r = pure () := by intro _ _; rfl) : WE C R env loc (eval (.Subscript value (.Slice (some lo) none none p) pos) env) P σ := by
  intro A s Q E r a f k
  refine wpAny_Subscript_list_slice (h A s _ E r a f fun v x s₁ σ₁ e1 e2 e3 e4 => ?_) ht
  have f1 := f.step a e3
  rw [evalPart_some]
  refine e4 A s₁ _ E r e2 f1 fun u y s₂ σ₂ z1 z2 z3 z4 => ?_
  rw [evalPart_none]
  refine wpAny_pure ?_
  refine Classical.byContradiction fun hG => ?_
  refine xE3A5 z4 fun l vs i hr1_ hl hn hr2_ hi hP => ?_
  try clear z4
  obtain rfl := hr1_
  obtain rfl := hr2_
  refine hG ?_
  clear hG
  cases e1; cases z1
  refine xE2A1 (z2.list hl) fun items n he hr => ?_
  have hlen : items.size = vs.length := by have := hr.length; rwa [Array.length_toList] at this
  refine ⟨l, items, _, _, rfl, ⟨_, he, rfl, n, rfl⟩, by rw [sizeLine_eq]; (first | lia | omega), .int _ _, .none, ?_⟩
  rw [slicePick_from items i (by (first | lia | omega))]
  obtain ⟨a2, s2⟩ := sliceList (C := C) (s₃ := s₂) (σ₃ := σ₂) (items := items) (vs := vs) (vl := .int i _) (vu := .none) (ws := vs.drop i) (pick := (items.toList.drop i).toArray) z2 (by simpa using hr.drop i)
  exact k _ _ _ _ (.ref _) a2 (e3.trans (z3.trans s2)) (hP _ z2.fresh1)
/-- xs[:hi] -/
theorem S_DelFrom {o lo : Expr} {p tpos pos : Pos}
    (h : WE C R env loc (eval o env) (fun x σ₁ => WE C R env loc (eval lo env) (fun y σ₂ => ∃ (a : Addr) (vs : List V) (i : Nat), x = .ref a ∧ σ₂ a = some (.list vs) ∧ vs.length ≤ 100000 ∧ y = .int i ∧ i ≤ vs.length ∧ PS .next loc (upd σ₂ a (.list (vs.take i)))) σ₁) σ) :
    WS C R env X (exec (.Delete [.Subscript o (.Slice (some lo) none none p) tpos] pos) env) PS loc σ := by
  intro A s Q E r a f k kx
  refine wpAny_Delete (wpAny_deleteEach_cons (wpAny_delete_Subscript (h A s _ E r a f fun v x s₁ σ₁ e1 e2 e3 e4 => ?_)))
  have f1 := f.step a e3
  refine wpAny_Slice ?_
  rw [evalPart_some]
  refine e4 A s₁ _ E r e2 f1 fun u y s₂ σ₂ z1 z2 z3 z4 => ?_
  rw [evalPart_none]
  refine wpAny_pure (wpAny_pure ?_)
  refine Classical.byContradiction fun hG => ?_
  refine xE3A5 z4 fun l vs i hr3_ hl hn hr4_ hi hP => ?_
  try clear z4
  obtain rfl := hr3_
  obtain rfl := hr4_
  refine hG ?_
  clear hG
  have f2 := f1.step e2 z3
  cases e1; cases z1
  rename_i ti
  have a3 := z2.push { cls := .type "slice", data := .fields #[.int i ti, .none, .none] }
  have s3 := Stp.push Nil s₂ σ₂ { cls := .type "slice", data := .fields #[.int i ti, .none, .none] } s₂.toks
  have f3 := f2.step z2 s3
  refine xE2A1 (a3.list hl) fun items n he hr => ?_
  have hlen : items.size = vs.length := by have := hr.length; rwa [Array.length_toList] at this
  refine wp_delSlice (s := { s₂ with heap := _ }) he (Heap.IsSliceOf.new ..) (by (first | lia | omega)) (by rw [sizeLine_eq]; (first | lia | omega)) fun h' n' hg hs' => ?_
  refine wpAny_deleteEach_nil ?_
  have nt : NoTup (fun b => b = l) (s₂.heap.push { cls := .type "slice", data := .fields #[.int i ti, .none, .none] }) := fun b n o eo => by subst n; exact (a3.objs _ _ hl).noTup o eo
  have hkp : Keeps (fun b => b = l) (s₂.heap.push { cls := .type "slice", data := .fields #[.int i ti, .none, .none] }) h' := fun b o eb n => (hs'.2 b n).trans eb
  have ro : RepO C h' l (.list (vs.take i)) := ⟨_, n', hg, by simpa using (hr.keep hkp nt).take i⟩
  have a4 := a3.set hl hs' ro
  have s4 := Stp.set Nil { s₂ with heap := s₂.heap.push { cls := .type "slice", data := .fields #[.int i ti, .none, .none] } } s₂.toks hl a4 hs'
  exact k _ _ { s₂ with heap := h' } loc _ .next a4 (f3.step a3 s4) ((e3.trans (z3.trans (s3.trans s4))).own) hP
end
end Mine
end
section
set_option Elab.async false
set_option maxRecDepth 100000
set_option linter.unusedVariables false
namespace Mine
open PySem PySem.W PyProof PySem.SeqAt

/-! ### values as data -/
mutual
noncomputable def V.py : V → PyData
  | .none => .none
  | .bool b => .bool b
  | .int i => .int i
  | .str s => .str s
  | .tup vs => .tuple (V.pys vs)
  | .ref _ => .none
noncomputable def V.pys : List V → List PyData
  | [] => []
  | x :: r => V.py x :: V.pys r
end
mutual
noncomputable def V.flat : V → Bool
  | .ref _ => false
  | .tup vs => V.flats vs
  | _ => true
noncomputable def V.flats : List V → Bool
  | [] => true
  | x :: r => V.flat x && V.flats r
end
theorem Rep.reads {h : Heap} {v : Value} {x : V} (r : Rep h v x) : x.flat = true → Reads h v x.py [] :=
  Rep.rec (motive_1 := fun v x _ => x.flat = true → Reads h v x.py []) (motive_2 := fun vs xs _ => V.flats xs = true → ReadsAll h vs (V.pys xs) []) (fun _ => .none) (fun b _ => .bool b) (fun i t _ => .int i t) (fun s t _ => .str s t) (fun a e => Bool.noConfusion (show false = true from e))
    (fun e _ ih f => .tuple e rfl rfl (ih f)) (fun _ => .nil) (fun _ _ ia ib f => .cons (as := []) (bs := []) (ia (Bool.and_eq_true_iff.mp f).1) (ib (Bool.and_eq_true_iff.mp f).2)) r
theorem Reps.reads {h : Heap} {v : List Value} {x : List V} (r : Reps h v x) (f : V.flats x = true) : ReadsAll h v (V.pys x) [] := by
  induction x generalizing v with
  | nil => cases r; exact .nil
  | cons y ys ih => cases r with | cons a b => exact .cons (as := []) (bs := []) (Rep.reads a (Bool.and_eq_true_iff.mp f).1) (ih b (Bool.and_eq_true_iff.mp f).2)

section
variable {C : Cx} {R : Rm} {env : Env} {loc : Loc} {σ : Sg} {X : XT C R env} {PS : Fl → Loc → Sg → Prop}

theorem Rm.u64 {A : Around} (r : R.P A) : A.units + 64 < cLine := by have := R.units A r; (first | lia | omega)
theorem Op_eqD {x y : V} {P : V → Sg → Prop} (fx : x.flat = true) (fy : y.flat = true) (hx : shaped x.py = true) (hy : shaped y.py = true) (h : P (.bool (PyData.eqv x.py y.py)) σ) : OpV C R env loc (compareOp .Eq) x y P σ := by
  intro u v A s Q E r a f hu hv k
  exact Rows.eq_dataH (hu.reads fx) (hv.reads fy) hx hy (Rm.u64 r) (k _ _ s σ (.bool _) a (.refl ..) h)
theorem Op_neD {x y : V} {P : V → Sg → Prop} (fx : x.flat = true) (fy : y.flat = true) (hx : shaped x.py = true) (hy : shaped y.py = true) (h : P (.bool (!PyData.eqv x.py y.py)) σ) : OpV C R env loc (compareOp .NotEq) x y P σ := by
  intro u v A s Q E r a f hu hv k
  exact Rows.ne_dataH (hu.reads fx) (hv.reads fy) hx hy (Rm.u64 r) (k _ _ s σ (.bool _) a (.refl ..) h)
theorem At.readsL {h : Heap} (at_ : At C h σ) {a : Addr} {vs : List V} (e : σ a = some (.list vs)) (f : V.flats vs = true) : Reads h (.ref a) (.list (V.pys vs)) [a] := by
  refine xE2A1 (at_.list e) fun items n he hr => ?_
  exact .list he rfl rfl (hr.reads f)
theorem Op_eqL {a b : Addr} {vs ws : List V} {P : V → Sg → Prop} (ea : σ a = some (.list vs)) (eb : σ b = some (.list ws)) (fx : V.flats vs = true) (fy : V.flats ws = true) (hx : shaped (.list (V.pys vs)) = true) (hy : shaped (.list (V.pys ws)) = true)
    (h : P (.bool (PyData.eqvAll (V.pys vs) (V.pys ws))) σ) : OpV C R env loc (compareOp .Eq) (.ref a) (.ref b) P σ := by
  intro u v A s Q E r at_ f hu hv k
  obtain rfl := hu.ref_inv
  obtain rfl := hv.ref_inv
  refine Rows.eq_dataH (at_.readsL ea fx) (at_.readsL eb fy) hx hy (Rm.u64 r) ?_
  have : PyData.eqv (.list (V.pys vs)) (.list (V.pys ws)) = PyData.eqvAll (V.pys vs) (V.pys ws) := by simp only [PyData.eqv]
  rw [this]
  exact k _ _ s σ (.bool _) at_ (.refl ..) h
theorem Op_neL {a b : Addr} {vs ws : List V} {P : V → Sg → Prop} (ea : σ a = some (.list vs)) (eb : σ b = some (.list ws)) (fx : V.flats vs = true) (fy : V.flats ws = true) (hx : shaped (.list (V.pys vs)) = true) (hy : shaped (.list (V.pys ws)) = true)
    (h : P (.bool (!PyData.eqvAll (V.pys vs) (V.pys ws))) σ) : OpV C R env loc (compareOp .NotEq) (.ref a) (.ref b) P σ := by
  intro u v A s Q E r at_ f hu hv k
  obtain rfl := hu.ref_inv
  obtain rfl := hv.ref_inv
  refine Rows.ne_dataH (at_.readsL ea fx) (at_.readsL eb fy) hx hy (Rm.u64 r) ?_
  have : PyData.eqv (.list (V.pys vs)) (.list (V.pys ws)) = PyData.eqvAll (V.pys vs) (V.pys ws) := by simp only [PyData.eqv]
  rw [this]
  exact k _ _ s σ (.bool _) at_ (.refl ..) h

/-! ### ints in lists -/
noncomputable def intOf : Value → Int
  | .int i _ => i
  | _ => 0
theorem ints_mem {h : Heap} {vals : List Value} {ks : List Int} (r : Reps h vals (ks.map .int)) : (∀ y ∈ vals, ∃ i t, y = .int i t) ∧ ∀ j, vals.any (fun y => intOf y == j) = ks.any (· == j) := by
  induction ks generalizing vals with
  | nil => cases r; exact ⟨fun _ h => (nomatch h), fun _ => rfl⟩
  | cons k ks ih =>
    cases r with
    | cons a b =>
      cases a with
      | int i t => exact ⟨fun y hy => (List.mem_cons.mp hy).elim (fun e => ⟨_, _, e⟩) ((ih b).1 y), fun j => by rw [List.any_cons, List.any_cons, (ih b).2 j]; rfl⟩
theorem wp_inList {A : Around} {s : Shared} {a : Addr} {i : Int} {t : Tok} {ks : List Int} {Q : Bool → Shared → Prop} {E : Value → Shared → Prop} (at_ : At C s.heap σ) (e : σ a = some (.list (ks.map .int))) (h : Q (ks.any (· == i)) s) :
    wpAny (model C.prog C.w) A (contains (.ref a) (.int i t)) Q E s := by
  refine xE2A1 (at_.list e) fun items n he hr => ?_
  refine xE0A1 (ints_mem hr) fun h1 h2 => ?_
  have hT : s.TypeIs (.ref a) "list" := ⟨_, he, rfl⟩
  refine wpAny_contains_slot hT F.slot_list_contains (call_meets F.slot_list_contains hT F.entry_list_contains (F.args_list_contains_2 _ _) (MeetsSeq.list_contains a items n (.int i t) (fun y => intOf y == i) fun y hy => ?_) ⟨he, ?_⟩)
  · refine xE2A0 (h1 y (by simpa using hy)) fun j u hr1_ => ?_
    obtain rfl := hr1_
    exact MeetsSeq.EqGives.int _ _ _ _
  · rw [← Array.any_toList, h2 i]
    exact wpAny_truthy_bool h
theorem O_in_list {a : Addr} {i : Int} {ks : List Int} {P : V → Sg → Prop} (e : σ a = some (.list (ks.map .int))) (h : P (.bool (ks.any (· == i))) σ) : OpV C R env loc (compareOp .In) (.int i) (.ref a) P σ := by
  intro u v A s Q E r at_ fo hu hv k
  refine xE1A0 hu.int_inv fun _ hr2_ => ?_
  obtain rfl := hr2_
  obtain rfl := hv.ref_inv
  show wpAny _ _ (do return .bool (← contains (.ref a) _)) Q E s
  exact wpAny_bind (wp_inList at_ e (wpAny_pure (k _ _ s σ (.bool _) at_ (.refl ..) h)))
theorem O_notIn_list {a : Addr} {i : Int} {ks : List Int} {P : V → Sg → Prop} (e : σ a = some (.list (ks.map .int))) (h : P (.bool (!ks.any (· == i))) σ) : OpV C R env loc (compareOp .NotIn) (.int i) (.ref a) P σ := by
  intro u v A s Q E r at_ fo hu hv k
  refine xE1A0 hu.int_inv fun _ hr3_ => ?_
  obtain rfl := hr3_
  obtain rfl := hv.ref_inv
  show wpAny _ _ (do return .bool (!(← contains (.ref a) _))) Q E s
  exact wpAny_bind (wp_inList at_ e (wpAny_pure (k _ _ s σ (.bool _) at_ (.refl ..) h)))

/-! ### ranges -/
theorem I_rangeOf {A : Around} {s₁ : Shared} {σ₁ : Sg} {r : Addr} {a b c : Int} {t u v : Tok} {n : Nat} {P : List V → (Sg → Prop) → Sg → Prop} {s : Shared} {Q : Value → Shared → Prop} {E : Value → Shared → Prop}
    (e2 : At C s₁.heap σ₁) (f1 : Fo C s₁.heap σ₁ env loc) (e3 : Stp Nil s σ s₁ σ₁) (hr : IsRange s₁.heap r a b c t u v) (hsm : Builtin.Range.small a b c = true) (hn : Builtin.Range.rangeSize a b c = n)
    (k : ∀ it xs Ok (I : It C it xs Ok) s' σ', At C s'.heap σ' → Fo C s'.heap σ' env loc → Stp Nil s σ s' σ' → s.heap.get? it = none → C.h₀.get? it = none → σ' it = none → ¬ Own env it → I.St 0 s'.heap → P xs Ok σ' → Q (.ref it) s')
    (h : P (steps a c n) (fun _ => True) σ₁) : wpAny (model C.prog C.w) A (pyIter (.ref r)) Q E s₁ := by
  refine wpAny_pyIter_range hr hsm ?_
  refine k _ _ _ (It.range C s₁.heap.objs.size a c n) { s₁ with heap := s₁.heap.push _ } σ₁ (e2.push _) (f1.step e2 (Stp.push Nil s₁ σ₁ _ s₁.toks)) (e3.trans (Stp.push Nil s₁ σ₁ _ s₁.toks)) e3.fresh e2.base_new e2.fresh (fun o => Nat.lt_irrefl _ (f1.lt o)) ?_ h
  rw [hn]
  show IsRangeIter _ _ (a + ((0 : Nat) : Int) * c) ((n : Int) - ((0 : Nat) : Int)) c
  have e1 : a + ((0 : Nat) : Int) * c = a := by simp
  have e4 : (n : Int) - ((0 : Nat) : Int) = n := by simp
  rw [e1, e4]
  exact Heap.get?_push_size _ rfl

theorem small_down {a : Int} (h : -1 ≤ a) (h' : a ≤ 1000000) : Builtin.Range.small a (-1) (-1) = true ∧ Builtin.Range.rangeSize a (-1) (-1) = a + 1 := by
  have e : Builtin.Range.rangeSize a (-1) (-1) = a + 1 := by
    unfold Builtin.Range.rangeSize
    simp only [show ¬ ((-1 : Int) > 0) by decide, if_false]
    by_cases q : -1 < a
    · have : (-(-1) : Int) = 1 := by decide
      simp [q, this]
    · have : a = -1 := by (first | lia | omega)
      subst this; decide
  refine ⟨?_, e⟩
  unfold Builtin.Range.small
  rw [e]
  simp only [Builtin.Range.rangeFitsLong, Bool.and_eq_true, Bool.or_eq_true, decide_eq_true_eq, beq_iff_eq, show ¬ ((-1 : Int) > 0) by decide, if_false]
  have h1 : -(2 ^ 63 : Int) ≤ a := by have : (2 ^ 63 : Int) = 9223372036854775808 := by decide
                                      (first | lia | omega)
  refine ⟨⟨⟨⟨?_, by decide⟩, by decide⟩, ?_⟩, .inr (by decide)⟩ <;> constructor <;> (first | lia | omega)

theorem I_range1 {g : Str} {gp pos : Pos} {e : Expr} {P : List V → (Sg → Prop) → Sg → Prop} (hv : nsIn C.K mainGlobals g = some none) (hb : bootBuiltins g = some (.type "range")) (hn : g ≠ "__name__") (hk : env.kindOf g = some .globalImplicit)
    (h : WL C R env loc (spliced (backTo pos (starEach [e] env))) (fun xs σ₁ => ∃ i : Int, xs = [.int i] ∧ 0 ≤ i ∧ i ≤ 1000000 ∧ P (steps 0 1 i.toNat) (fun _ => True) σ₁) σ)
    (hplain : (backTo pos (starEach [e] env)).any (·.1) = false := by rfl) (hd : (g == ("__debug__" : Str)) = false := by decide) : WI C R env loc (.Call (.Name g gp) [e] [] pos) P σ := by
  intro A s Q E r a f k
  refine wpAny_Call_Name_kw (wp_NameB a f hv hb hn hk ?_ hd)
  refine PyProof.Rows.callWith_type hplain (evalArgs_of hplain (h A s _ E r a f fun vs xs s₁ σ₁ e1 e2 e3 e4 => ?_))
  refine Classical.byContradiction fun hG => ?_
  refine xE1A3 e4 fun i hr4_ h0 h1 hP => ?_
  try clear e4
  obtain rfl := hr4_
  refine hG ?_
  clear hG
  cases e1 with | cons r1 r2 =>
  cases r2; cases r1
  have f1 := f.step a e3
  rename_i t1
  show wpAny _ _ (call (.type "range") [.int i t1]) _ _ _
  refine call_range_1 ?_
  have s2 := Stp.push Nil s₁ σ₁ { cls := .type "range", data := .fields #[.int 0 s₁.toks, .int i t1, .int 1 (s₁.toks + 1)] } (s₁.toks + 1 + 1)
  refine I_rangeOf (s₁ := { s₁ with heap := _, toks := _ }) (n := i.toNat) (e2.push _) (f1.step e2 s2) (e3.trans s2) (IsRange.new ..) (small_one (by (first | lia | omega)) (by (first | lia | omega)) (by (first | lia | omega)) (by (first | lia | omega))) ?_ k hP
  rw [rangeSize_one]; split <;> (first | lia | omega)
theorem I_range3 {g : Str} {gp pos : Pos} {e e' e'' : Expr} {P : List V → (Sg → Prop) → Sg → Prop} (hv : nsIn C.K mainGlobals g = some none) (hb : bootBuiltins g = some (.type "range")) (hn : g ≠ "__name__") (hk : env.kindOf g = some .globalImplicit)
    (h : WL C R env loc (spliced (backTo pos (starEach [e, e', e''] env))) (fun xs σ₁ => ∃ i : Int, xs = [.int i, .int (-1), .int (-1)] ∧ -1 ≤ i ∧ i ≤ 1000000 ∧ P (steps i (-1) (i + 1).toNat) (fun _ => True) σ₁) σ)
    (hplain : (backTo pos (starEach [e, e', e''] env)).any (·.1) = false := by rfl) (hd : (g == ("__debug__" : Str)) = false := by decide) : WI C R env loc (.Call (.Name g gp) [e, e', e''] [] pos) P σ := by
  intro A s Q E r a f k
  refine wpAny_Call_Name_kw (wp_NameB a f hv hb hn hk ?_ hd)
  refine PyProof.Rows.callWith_type hplain (evalArgs_of hplain (h A s _ E r a f fun vs xs s₁ σ₁ e1 e2 e3 e4 => ?_))
  refine Classical.byContradiction fun hG => ?_
  refine xE1A3 e4 fun i hr5_ h0 h1 hP => ?_
  try clear e4
  obtain rfl := hr5_
  refine hG ?_
  clear hG
  cases e1 with | cons r1 r2 => cases r2 with | cons r2 r3 => cases r3 with | cons r3 r4 =>
  cases r4; cases r1; cases r2; cases r3
  have f1 := f.step a e3
  rename_i t1 t2 t3
  show wpAny _ _ (call (.type "range") [.int i t1, .int (-1) t2, .int (-1) t3]) _ _ _
  refine call_range_3 (by decide) ?_ (.inl (PyProof.noPylong_small (by (first | lia | omega))))
  have s2 := Stp.push Nil s₁ σ₁ { cls := .type "range", data := .fields #[.int i t1, .int (-1) t2, .int (-1) t3] } s₁.toks
  refine xE0A1 (small_down h0 h1) fun d1 d2 => ?_
  exact I_rangeOf (s₁ := { s₁ with heap := _ }) (n := (i + 1).toNat) (e2.push _) (f1.step e2 s2) (e3.trans s2) (IsRange.new ..) d1 (by rw [d2]; (first | lia | omega)) k hP
end
end Mine
end
section
set_option Elab.async false
set_option maxRecDepth 100000
set_option linter.unusedVariables false
namespace Mine
open PySem PySem.W PyProof PySem.SeqAt

section
variable {C : Cx} {R : Rm} {env : Env} {loc : Loc} {σ : Sg} {X : XT C R env} {PS : Fl → Loc → Sg → Prop}

theorem Fo.weak {h : Heap} {loc' : Loc} (f : Fo C h σ env loc) (hl : ∀ z v, loc' z = some v → loc z = some v) : Fo C h σ env loc' := by
  refine ⟨f.kind, f.glob, f.bi, ?_, fun z c hc => ?_, f.has, f.nodup, f.new⟩
  · refine xE1A1 f.vars fun m hn hm => ?_
    exact ⟨m, hn, fun z v hz hk => hm z v (hl z v hz) hk⟩
  · refine xE2A2 (f.cell z c hc) fun o cv e d hcv => ?_
    exact ⟨o, cv, e, d, fun v hv hk => hcv v (hl z v hv) hk⟩

/-- names that a comprehension takes from outside -/
noncomputable def frees (scope : Scope) : List Str := scope.names.filterMap fun p => if p.2 == .free then some p.1 else none
noncomputable def clOf (scope : Scope) (env : Env) : List (Str × Addr) := ((frees scope).map fun z => (z, (env.cells.lookup z).getD 0)).reverse
theorem forIn_closure {env : Env} : ∀ (l : List (Str × NameKind)) (acc : List (Str × Addr)), (∀ z ∈ l, z.2 = .free → ∃ c, env.cells.lookup z.1 = some c) →
    (forIn l acc fun x r => if x.2 == .free then (do let a ← cellOf env x.1; pure (ForInStep.yield ((x.1, a) :: r))) else pure (ForInStep.yield r) : Sem (List (Str × Addr))) =
      pure (((l.filterMap fun p => if p.2 == .free then some p.1 else none).map fun z => (z, (env.cells.lookup z).getD 0)).reverse ++ acc)
  | [], acc, _ => by simp
  | (n, k) :: r, acc, h => by
    rw [List.forIn_cons]
    have ih := fun a => forIn_closure r a fun z hz => h z (.tail _ hz)
    by_cases q : k = .free
    · subst q
      refine xE1A0 (h (n, .free) (.head _) rfl) fun c hc => ?_
      have : cellOf env n = pure c := by unfold cellOf; rw [hc]
      simp only [beq_self_eq_true, if_true, this, pure_bind]
      rw [ih]
      simp [hc]
    · have : (k == NameKind.free) = false := by simpa using q
      simp only [this, Bool.false_eq_true, if_false, pure_bind]
      rw [ih, List.filterMap_cons]
      simp only [this, Bool.false_eq_true, if_false]
theorem closureFor_cl {scope : Scope} (h : ∀ z ∈ frees scope, ∃ c, env.cells.lookup z = some c) : closureFor scope env = pure (clOf scope env) := by
  have := forIn_closure (env := env) scope.names [] (fun z hz hk => h z.1 (by
    unfold frees
    rw [List.mem_filterMap]
    exact ⟨z, hz, by simp [hk]⟩))
  unfold closureFor
  refine (Eq.trans ?_ this).trans (by simp [clOf, frees])
  rw [bind_pure]

noncomputable def compOk (scope : Scope) (env : Env) (x : Str) : Bool :=
  scope.names.all (fun p => p.2 != .cell) && (frees scope).all (fun z => env.kindOf z == some .cell) && (scope.names.lookup x == some .local) && scope.names.all (fun p => p.2 != .local || scope.names.lookup p.1 == some .local) && scope.kind == .function
/-- what the frame of a comprehension sees of the frame around it -/
noncomputable def locF (scope : Scope) (env : Env) (loc : Loc) : Loc := fun z => if (relabel scope env).names.lookup z = some .local then none else loc z

/-- the tests of a comprehension -/
noncomputable def WT (C : Cx) (R : Rm) (env : Env) (loc : Loc) (ifs : List Expr) (P : Bool → Sg → Prop) (σ : Sg) : Prop :=
  match ifs with
  | [] => P true σ
  | [c] => WB C R env loc (isTrue c env (eval c env)) P σ
  | _ => False

theorem lookup_relabel {env : Env} {names : List (Str × NameKind)} {x : Str} {k : NameKind} (h : (names.map fun (n, k) => if (k == NameKind.free && env.scope.kind == .function && env.kindOf n == some .cell) then (n, NameKind.cell) else (n, k)).lookup x = some k) :
    ∃ k', names.lookup x = some k' ∧ (x, k') ∈ names ∧ (k = k' ∨ (k' = .free ∧ k = .cell)) := by
  induction names with
  | nil => cases h
  | cons p r ih =>
    obtain ⟨n, k₀⟩ := p
    rw [List.map_cons] at h
    dsimp only at h
    cases hx : x == n with
    | true =>
      have e := eq_of_beq hx
      subst e
      refine ⟨k₀, by rw [List.lookup_cons, hx], .head _, ?_⟩
      by_cases hc : (k₀ == NameKind.free && env.scope.kind == .function && env.kindOf x == some .cell) = true
      · rw [if_pos hc, List.lookup_cons, hx] at h
        cases h
        simp only [Bool.and_eq_true, beq_iff_eq] at hc
        exact .inr ⟨hc.1.1, rfl⟩
      · rw [if_neg hc, List.lookup_cons, hx] at h
        cases h
        exact .inl rfl
    | false =>
      have h' := ih (by
        by_cases hc : (k₀ == NameKind.free && env.scope.kind == .function && env.kindOf n == some .cell) = true
        · rw [if_pos hc, List.lookup_cons, hx] at h; exact h
        · rw [if_neg hc, List.lookup_cons, hx] at h; exact h)
      exact h'.elim fun k' q => ⟨k', by rw [List.lookup_cons, hx]; exact q.1, .tail _ q.2.1, q.2.2⟩
theorem lookup_clOf {scope : Scope} (hf : ∀ z ∈ frees scope, ∃ c, env.cells.lookup z = some c) : ∀ {z c}, (clOf scope env).lookup z = some c → env.cells.lookup z = some c ∧ z ∈ frees scope := by
  intro z c h
  have hm := mem_lookup h
  unfold clOf at hm
  rw [List.mem_reverse, List.mem_map] at hm
  refine xE1A1 hm fun y hy e => ?_
  try clear hm
  cases e
  refine xE1A0 (hf _ hy) fun c hc => ?_
  rw [hc]
  exact ⟨rfl, hy⟩
theorem clOf_has {scope : Scope} {z : Str} (h : z ∈ frees scope) : ∃ c, (clOf scope env).lookup z = some c := by
  unfold clOf
  generalize hl : ((frees scope).map fun z => (z, (env.cells.lookup z).getD 0)).reverse = l
  have hm : ∃ c, (z, c) ∈ l := ⟨_, by rw [← hl, List.mem_reverse, List.mem_map]; exact ⟨z, h, rfl⟩⟩
  clear hl
  induction l with
  | nil =>
    refine xE1A0 hm fun _ h => ?_
    try clear hm
    cases h
  | cons p l ih =>
    rw [List.lookup_cons]
    cases hb : z == p.1 with
    | true => exact ⟨_, rfl⟩
    | false =>
      refine xE1A0 hm fun c hm => ?_
      rcases List.mem_cons.mp hm with e | hm
      · subst e; simp at hb
      · exact ih ⟨c, hm⟩

theorem comp_loop {elt iter : Expr} {x : Str} {px pos : Pos} {ifs : List Expr} {scope : Scope} {cenv : Env} {lF : Loc} {it D : Addr} {xs : List V} {Ok : Sg → Prop} (I : It C it xs Ok) {A : Around} {s₀ s₁ : Shared} {σ₂ : Sg} {RR : Result → Shared → Prop}
    (r : R.P A) (a₁ : At C s₁.heap σ₂) (fC : Fo C s₁.heap σ₂ cenv lF) (st₁ : Stp Nil s₀ σ s₁ σ₂) (hn : s₀.heap.get? it = none) (hst₁ : I.St 0 s₁.heap) (hσ : σ₂ it = none) (hb : C.h₀.get? it = none) (hacc : s₁.heap.get? D = some (lstObj #[] 0)) (hσD0 : σ₂ D = none) (hD0 : C.h₀.get? D = none)
    (hDC : D ≠ cenv.locals) (hitD : it ≠ D) (hitC : it ≠ cenv.locals) (hoC : ¬ Own cenv it) (hoD : ¬ Own cenv D) (hkx : cenv.kindOf x = some .local) (hlx : lF x = none) (old0 : ∀ b o, s₀.heap.get? b = some o → b ≠ cenv.locals ∧ b ≠ D)
    (hlen : xs.length ≤ 100000) (J : Nat → List V → Sg → Prop) (h0 : J 0 [] σ₂) (hJ : ∀ i acc s, J i acc s → Ok s ∧ acc.length ≤ i)
    (turn : ∀ i y acc σ', xs[i]? = some y → J i acc σ' → WT C R cenv (setL lF x y) ifs (fun b σ'' => if b then WE C R cenv (setL lF x y) (eval elt cenv) (fun z σ₃ => J (i + 1) (acc ++ [z]) σ₃) σ'' else J (i + 1) acc σ'') σ')
    (hRR : ∀ s' σ' acc, J xs.length acc σ' → At C s'.heap σ' → Stp Nil s₀ σ s' σ' → σ' D = none → (∃ m, s'.heap.Ns cenv.locals m) → (∃ items n, s'.heap.get? D = some (lstObj items n) ∧ Reps s'.heap items.toList acc) → σ' cenv.locals = none → RR (.ok .next) s') :
    codeAny (model C.prog C.w) A (.compLoop (.ListComp elt [⟨.Name x px, iter, ifs, 0⟩] scope pos) 0 (.ref it) (.ref D) cenv) RR s₁ := by
  obtain ⟨IV, hIV⟩ : ∃ IV : Nat → Shared → Prop, ∀ n s', IV n s' ↔ ∃ i l acc σ', n = xs.length + 1 - i ∧ i ≤ xs.length ∧ J i acc σ' ∧ At C s'.heap σ' ∧ Fo C s'.heap σ' cenv l ∧ (∀ z v, lF z = some v → l z = some v) ∧ Stp Nil s₀ σ s' σ' ∧ I.St i s'.heap ∧ σ' it = none ∧ σ' D = none ∧ ∃ items nn, s'.heap.get? D = some (lstObj items nn) ∧ Reps s'.heap items.toList acc := ⟨_, fun _ _ => Iff.rfl⟩
  refine codeAny_compLoop_tests IV ?_ (xs.length + 1) ((hIV _ _).mpr ⟨0, _, [], σ₂, rfl, Nat.zero_le _, h0, a₁, fC, fun _ _ h => h, st₁, hst₁, hσ, hσD0, #[], 0, hacc, .nil⟩)
  intro n s' hIs
  refine Classical.byContradiction fun hG => ?_
  refine xE4A10 ((hIV _ _).mp hIs) fun i l acc σ' hr1_ hi hJ' a' f' hl st' hst' hσ' hσD hz2_ => ?_
  refine xE2A1 hz2_ fun items nn hd hr => ?_
  clear hz2_
  obtain rfl := hr1_
  refine hG ?_
  clear hG
  have nt := I.noTup hst'
  cases hx : xs[i]? with
  | none =>
    have hlen : i = xs.length := Nat.le_antisymm hi (by simpa using hx)
    subst hlen
    refine I.fin (R.handled A r) a' (hJ _ _ _ hJ').1 hst' fun h' e => ?_
    refine xE1A1 f'.vars fun m hnm _ => ?_
    have hnm' : h'.Ns cenv.locals m := by
      refine xE3A1 hnm fun o es ep q rr => ?_
      try clear hnm
      exact ⟨o, es, ep, e _ _ (Ne.symm hitC) q, rr⟩
    have hσC : σ' cenv.locals = none := by have := (f'.new cenv.locals (.inl rfl)).2; exact this
    exact hRR { s' with heap := h' } σ' acc hJ' (a'.ext hb hσ' e nt) (st'.ext hn e s'.toks) hσD ⟨m, hnm'⟩
      ⟨items, nn, e _ _ (Ne.symm hitD) hd, hr.keep (N := fun b => b = it) (fun b o eb nb => e b o nb eb) nt⟩ hσC
  | some y =>
    have hlt : i < xs.length := (List.getElem?_eq_some_iff.mp hx).1
    refine I.item (R.handled A r) a' (hJ _ _ _ hJ').1 hst' hx fun h' t v hv hst2 e => ?_
    have a2 := a'.ext hb hσ' e nt
    have f2 := f'.ext hoC e nt
    have st2 := st'.ext hn e t
    have hv2 : Rep h' v y := hv.keep (N := fun b => b = it) (fun b o e' n => e b o n e') nt
    have hd2 := e _ _ (Ne.symm hitD) hd
    have hr2 := hr.keep (N := fun b => b = it) (fun b o eb nb => e b o nb eb) nt
    show wpAny _ _ (assign (.Name x px) cenv v) _ _ _
    refine xE1A1 f2.vars fun m hnm hm => ?_
    refine PyProof.Rows.assign_Name (wpAny_storeName_local hkx hnm (fun h3 hn3 hs3 => ?_) (by rw [f2.kind]; rfl))
    obtain ⟨a3, f3, _⟩ := Fo.store (s := { s' with heap := h', toks := t }) a2 f2 hkx hv2 hnm hm hn3 hs3 (t + 1)
    have f3' : Fo C h3 σ' cenv (setL lF x y) := f3.weak fun z v hz => by
      unfold setL at hz ⊢
      split at hz
      · rename_i q; rw [if_pos q]; exact hz
      · rename_i q; rw [if_neg q]; exact hl z v hz
    have ntC : NoTup (fun b => b = cenv.locals) h' := fun b n o eo => by subst n; exact f2.noTup _ (.inl rfl) o eo
    have kC : Keeps (fun b => b = cenv.locals) h' h3 := fun b o eb n => (hs3.2 b n).trans eb
    have st3 : Stp Nil s₀ σ { s' with heap := h3, toks := t + 1 } σ' := by
      refine ⟨fun b o eb hbn n => (hs3.2 b (old0 b o eb).1).trans (st2.keep b o eb hbn n), fun b o eb => ?_, st2.dom, st2.gens, st2.os⟩
      refine xE1A0 (st2.there b o eb) fun o' e' => ?_
      exact ⟨o', (hs3.2 b (old0 b o eb).1).trans e'⟩
    have hst3 : I.St (i + 1) h3 := I.keep (N := fun b => b = cenv.locals) kC ntC hitC hst2
    have hd3 := (hs3.2 D hDC).trans hd2
    have hr3 := hr2.keep kC ntC
    have T := turn i y acc σ' hx hJ'
    have fin : ∀ (b : Bool) (s4 : Shared) (σ4 : Sg), At C s4.heap σ4 → Stp Nil { s' with heap := h3, toks := t + 1 } σ' s4 σ4 →
        (if b then WE C R cenv (setL lF x y) (eval elt cenv) (fun z σ₃ => J (i + 1) (acc ++ [z]) σ₃) σ4 else J (i + 1) acc σ4) →
        (if b = true then wpAny (model C.prog C.w) A (eval elt cenv) (fun x s₄ =>
            wpAny (model C.prog C.w) A (call (.builtin "list.append") [.ref D, x]) (fun _ s₅ => ∃ m, m < xs.length + 1 - i ∧ IV m s₅) (notedBy (model C.prog C.w) A cenv fun e s' => RR (.error e) s') s₄) (notedBy (model C.prog C.w) A cenv fun e s' => RR (.error e) s') s4
          else ∃ m, m < xs.length + 1 - i ∧ IV m s4) := by
      intro b s4 σ4 a4 st4 hb4
      have f4 := f3'.step a3 st4
      have hsetl : ∀ z v, lF z = some v → setL lF x y z = some v := fun z v hz => by
        unfold setL
        rw [if_neg (fun q => by rw [q, hlx] at hz; cases hz)]; exact hz
      have kk : Keeps (fun b => σ' b ≠ none) h3 s4.heap := st4.keeps
      have hst4 : I.St (i + 1) s4.heap := I.keep kk a3.noTup (fun q => q hσ') hst3
      have hd4 := st4.keep _ _ hd3 hσD id
      have hr4 := st4.reps a3 hr3
      refine xE1A0 (I.there hst3) fun oit eit => ?_
      have hσ4 := st4.dom _ _ eit hσ'
      have hσD4 := st4.dom _ _ hd3 hσD
      cases b with
      | false =>
        simp only [Bool.false_eq_true, if_false] at hb4 ⊢
        exact ⟨xs.length + 1 - (i + 1), by (first | lia | omega), (hIV _ _).mpr ⟨i + 1, _, acc, σ4, rfl, hlt, hb4, a4, f4, hsetl, st3.trans st4, hst4, hσ4, hσD4, items, nn, hd4, hr4⟩⟩
      | true =>
        simp only [if_true] at hb4 ⊢
        refine hb4 A s4 _ _ r a4 f4 fun v5 z s5 σ5 z1 z2 z3 z4 => ?_
        have f5 := f4.step a4 z3
        have hst5 : I.St (i + 1) s5.heap := I.keep z3.keeps a4.noTup (fun q => q hσ4) hst4
        have hd5 := z3.keep _ _ hd4 hσD4 id
        have hr5 := z3.reps a4 hr4
        refine xE1A0 (I.there hst4) fun oit5 eit5 => ?_
        have hσ5 := z3.dom _ _ eit5 hσ4
        have hσD5 := z3.dom _ _ hd4 hσD4
        have hsz : items.size ≤ sizeLine := by
          have q1 := hr5.length; rw [Array.length_toList] at q1
          have q2 := (hJ _ _ _ hJ').2
          rw [sizeLine_eq]; (first | lia | omega)
        refine PySem.call_meets F.slot_list_append ⟨_, hd5, rfl⟩ F.entry_list_append (F.args_list_append_2 _ _) (PySem.list_append _ items nn _ hsz) ⟨hd5, ?_⟩
        have hs6 : Heap.SameBut D s5.heap (s5.heap.update D (Obj.mapSeq (·.push v5))) := Heap.SameBut.update ..
        have e6 : Heap.ExtBut D s5.heap (s5.heap.update D (Obj.mapSeq (·.push v5))) := hs6.extBut
        have nt6 : NoTup (fun b => b = D) s5.heap := fun b n o eo => by subst n; rw [hd5] at eo; cases eo; intro hc; simp at hc
        have hg : (s5.heap.update D (Obj.mapSeq (·.push v5))).get? D = some (lstObj (items.push v5) (if (items.push v5).size == items.size then nn else nn + 1)) := by rw [Heap.get?_update_self _ hd5 rfl, mapSeq_lst]
        have k6 : Keeps (fun b => b = D) s5.heap (s5.heap.update D (Obj.mapSeq (·.push v5))) := fun b o eb n => (hs6.2 b n).trans eb
        refine ⟨xs.length + 1 - (i + 1), by (first | lia | omega), (hIV _ _).mpr ⟨i + 1, _, acc ++ [z], σ5, rfl, hlt, z4, z2.ext hD0 hσD5 e6 nt6, f5.ext hoD e6 nt6, hsetl, ?_, I.keep k6 nt6 hitD hst5, hσ5, hσD5, _, _, hg, ?_⟩⟩
        · have st5 := (st3.trans st4).trans z3
          refine ⟨fun b o eb hbn n => (hs6.2 b (old0 b o eb).2).trans (st5.keep b o eb hbn n), fun b o eb => ?_, st5.dom, st5.gens, st5.os⟩
          refine xE1A0 (st5.there b o eb) fun o' e' => ?_
          exact ⟨o', (hs6.2 b (old0 b o eb).2).trans e'⟩
        · rw [Array.toList_push]
          exact (hr5.keep k6 nt6).append (.cons (z1.keep k6 nt6) .nil)
    match ifs, T with
    | [], T => exact wpAny_tests_nil (fin true { s' with heap := h3, toks := t + 1 } σ' a3 (.refl ..) T)
    | [c], T => exact wpAny_tests_one (T A { s' with heap := h3, toks := t + 1 } _ _ r a3 f3' fun b b' s4 σ4 q1 q2 q3 q4 => by cases q1; exact fin b s4 σ4 q2 q3 q4)
    | _ :: _ :: _, T => exact T.elim
theorem comp_core {elt iter : Expr} {x : Str} {px pos : Pos} {ifs : List Expr} {scope : Scope} {it : Addr} {xs : List V} {Ok : Sg → Prop} (I : It C it xs Ok) {A : Around} {s₀ s₂ : Shared} {σ₂ : Sg} {RR : Value → Addr → Result → Shared → Prop} {E : Value → Shared → Prop}
    (r : R.P A) (a₂ : At C s₂.heap σ₂) (f₂ : Fo C s₂.heap σ₂ env loc) (e₀ : Stp Nil s₀ σ s₂ σ₂) (hn : s₀.heap.get? it = none) (hst : I.St 0 s₂.heap) (hσ : σ₂ it = none) (ho : ¬ Own env it) (hb : C.h₀.get? it = none) (hok : compOk scope env x = true) (hlen : xs.length ≤ 100000)
    (J : Nat → List V → Sg → Prop) (h0 : J 0 [] σ₂) (hJ : ∀ i acc s, J i acc s → Ok s ∧ acc.length ≤ i)
    (turn : ∀ Cn i y acc σ', xs[i]? = some y → J i acc σ' → WT C R (compEnvC scope (clOf scope env) Cn env) (setL (locF scope env loc) x y) ifs (fun b σ'' => if b then WE C R (compEnvC scope (clOf scope env) Cn env) (setL (locF scope env loc) x y) (eval elt (compEnvC scope (clOf scope env) Cn env)) (fun z σ₃ => J (i + 1) (acc ++ [z]) σ₃) σ'' else J (i + 1) acc σ'') σ')
    (hRR : ∀ D Cn s' σ' acc, J xs.length acc σ' → At C s'.heap σ' → Stp Nil s₀ σ s' σ' → s₂.heap.get? D = none → s₂.heap.get? Cn = none → D ≠ Cn → σ' D = none → C.h₀.get? D = none → (∃ m, s'.heap.Ns Cn m) → (∃ items n, s'.heap.get? D = some (lstObj items n) ∧ Reps s'.heap items.toList acc) → C.h₀.get? Cn = none → σ' Cn = none → RR (.ref D) Cn (.ok .next) s') :
    wpAny (model C.prog C.w) A (newList []) (fun acc s₃ => wpAny (model C.prog C.w) A (newFunctionEnv scope env.globals (clOf scope env) [] env.qual none .none (some env)) (fun cenv s₄ =>
      codeAny (model C.prog C.w) A (.compStart (.ListComp elt [⟨.Name x px, iter, ifs, 0⟩] scope pos) 0 (.ref it) acc { cenv with scope := relabel scope env }) (RR acc cenv.locals) s₄) E s₃) E s₂ := by
  unfold compOk at hok
  simp only [Bool.and_eq_true, List.all_eq_true, bne_iff_ne, ne_eq, beq_iff_eq, Bool.or_eq_true] at hok
  refine Classical.byContradiction fun hG => ?_
  refine xE0A1 hok fun hr3_ c5 => ?_
  try clear hok
  refine xE0A1 hr3_ fun hr1_ c4 => ?_
  try clear hr3_
  obtain ⟨⟨c1, c2⟩, c3⟩ := hr1_
  refine hG ?_
  clear hG
  have hfr : ∀ z ∈ frees scope, ∃ c, env.cells.lookup z = some c := fun z hz => f₂.has z (.inl (c2 z hz))
  refine wpAny_newObj_type (wpAny_newFunctionEnv c1 (by intro y hy; simp at hy) (fun h₁ hns₁ hsb₁ => ?_) c5)
  dsimp only at hns₁ hsb₁ ⊢
  have hDn : s₂.heap.get? s₂.heap.objs.size = none := Heap.get?_none_of_le (Nat.le_refl _)
  generalize hD : s₂.heap.objs.size = D at hns₁ hsb₁ hDn ⊢
  generalize hH2 : s₂.heap.push { cls := .type "list", dict := none, data := .seq ([] : List Value).toArray } = H2 at hns₁ hsb₁ ⊢
  have hC : H2.objs.size = D + 1 := by rw [← hH2, Heap.size_push, hD]
  have hCn : s₂.heap.get? H2.objs.size = none := Heap.get?_none_of_le (by rw [hC, ← hD]; exact Nat.le_succ _)
  generalize hCe : H2.objs.size = Cn at *
  have hDC : D ≠ Cn := by rw [hC]; exact Nat.ne_of_lt (Nat.lt_succ_self _)
  have old : ∀ b o, s₂.heap.get? b = some o → h₁.get? b = some o := fun b o e => hsb₁.extBut b o (fun q => by subst q; rw [hCn] at e; cases e) (Heap.get?_push_of_some _ (hH2 ▸ Heap.get?_push_of_some _ e))
  have hacc : h₁.get? D = some (lstObj #[] 0) := hsb₁.extBut _ _ hDC (Heap.get?_push_of_some _ (hH2 ▸ hD ▸ Heap.get?_push_size _ rfl))
  have a₁ : At C h₁ σ₂ := a₂.grow old
  have noσ : ∀ b, s₂.heap.get? b = none → σ₂ b = none ∧ C.h₀.get? b = none := fun b e => by
    constructor
    · cases q : σ₂ b with
      | none => rfl
      | some o =>
        refine xE1A0 ((a₂.objs b o q).there) fun ob e' => ?_
        rw [e] at e'; cases e'
    · cases q : C.h₀.get? b with
      | none => rfl
      | some o => have := a₂.keep b o q; rw [e] at this; cases this
  have st₁ : Stp Nil s₂ σ₂ { s₂ with heap := h₁, toks := s₂.toks + ([] : List (Str × Value)).length } σ₂ := Stp.grow Nil s₂ σ₂ _ old
  have kinds : ∀ z k, (compEnvC scope (clOf scope env) Cn env).kindOf z = some k → (k = .cell ∨ k = .free) → z ∈ frees scope := by
    intro z k hz hk
    have hz' : (relabel scope env).names.lookup z = some k := hz
    refine xE1A2 (lookup_relabel hz') fun k' e1 e2 e3 => ?_
    have hk' : k' = .free := by
      rcases e3 with rfl | ⟨e, _⟩
      · rcases hk with rfl | rfl
        · exact absurd rfl (c1 _ e2)
        · rfl
      · exact e
    subst hk'
    unfold frees
    rw [List.mem_filterMap]
    exact ⟨_, e2, by simp⟩
  have fC : Fo C h₁ σ₂ (compEnvC scope (clOf scope env) Cn env) (locF scope env loc) := by
    refine ⟨by simpa [compEnvC, relabel] using c5, f₂.glob, f₂.bi, ⟨_, hns₁, fun z v hz hk => ?_⟩, fun z c hc => ?_, fun z hz => ?_, fun z y c hz hy => ?_, fun b hb' => ?_⟩
    · unfold locF at hz
      have hk' : (relabel scope env).names.lookup z = some .local := hk
      rw [if_pos hk'] at hz; cases hz
    · refine xE0A1 (lookup_clOf hfr hc) fun e1 e2 => ?_
      refine xE2A2 (f₂.cell z c e1) fun o cv e d hcv => ?_
      refine ⟨o, cv, old _ _ e, d, fun v hv _ => ?_⟩
      unfold locF at hv
      split at hv
      · cases hv
      · refine xE1A1 (hcv v hv (.inl (c2 z e2))) fun val q1 q2 => ?_
        exact ⟨val, q1, st₁.rep a₂ q2⟩
    · rcases hz with hz | hz
      · exact clOf_has (kinds z _ hz (.inl rfl))
      · exact clOf_has (kinds z _ hz (.inr rfl))
    · exact f₂.nodup z y c (lookup_clOf hfr hz).1 (lookup_clOf hfr hy).1
    · rcases hb' with rfl | ⟨z, hz⟩
      · exact ⟨(noσ _ hCn).2, (noσ _ hCn).1⟩
      · exact f₂.new b (.inr ⟨z, (lookup_clOf hfr hz).1⟩)
  have hitD : it ≠ D := fun q => by
    refine xE1A0 (I.there hst) fun o e => ?_
    rw [q, hDn] at e; cases e
  have hitC : it ≠ Cn := fun q => by
    refine xE1A0 (I.there hst) fun o e => ?_
    rw [q, hCn] at e; cases e
  have hoC : ¬ Own (compEnvC scope (clOf scope env) Cn env) it := by
    rintro (q | ⟨z, hz⟩)
    · exact hitC q
    · exact ho (.inr ⟨z, (lookup_clOf hfr hz).1⟩)
  have hoD : ¬ Own (compEnvC scope (clOf scope env) Cn env) D := by
    rintro (q | ⟨z, hz⟩)
    · exact hDC q
    · refine xE2A1 (f₂.cell z D (lookup_clOf hfr hz).1) fun o cv e _ => ?_
      rw [hDn] at e; cases e
  have hst₁ : I.St 0 h₁ := I.keep (N := fun _ => False) (fun b o e _ => old b o e) (fun _ n => n.elim) id hst
  have hkx : (compEnvC scope (clOf scope env) Cn env).kindOf x = some .local := lookup_relabel_local c3
  have old0 : ∀ b o, s₀.heap.get? b = some o → b ≠ Cn ∧ b ≠ D := fun b o e => by
    refine xE1A0 (e₀.there b o e) fun o' e' => ?_
    exact ⟨fun q => (by rw [q, hCn] at e'; cases e'), fun q => (by rw [q, hDn] at e'; cases e')⟩
  have loop := fun (s₃ : Shared) (q : s₃ = { s₂ with heap := h₁, toks := s₂.toks + ([] : List (Str × Value)).length }) => comp_loop (elt := elt) (iter := iter) (px := px) (pos := pos) (ifs := ifs) (scope := scope) (cenv := compEnvC scope (clOf scope env) Cn env) (s₁ := s₃) (RR := RR (.ref D) Cn) I r (q ▸ a₁) (q ▸ fC) (q ▸ e₀.trans st₁) hn (q ▸ hst₁) hσ hb (q ▸ hacc) (noσ _ hDn).1 (noσ _ hDn).2 hDC hitD hitC hoC hoD hkx (if_pos (lookup_relabel_local c3)) old0 hlen J h0 hJ (turn Cn)
    fun s' σ' acc q1 q2 q3 q4 q5 q6 q7 => hRR D Cn s' σ' acc q1 q2 q3 hDn hCn hDC q4 (noσ _ hDn).2 q5 q6 (noσ _ hCn).2 q7
  exact codeAny_compStart_list (loop _ rfl) (I.again hst₁ (loop _ rfl))
end
end Mine
end
section
set_option Elab.async false
set_option maxRecDepth 100000
set_option linter.unusedVariables false
namespace Mine
open PySem PySem.W PyProof PySem.SeqAt

section
variable {C : Cx} {R : Rm} {env : Env} {loc : Loc} {σ : Sg} {X : XT C R env} {PS : Fl → Loc → Sg → Prop}

theorem At.add {h : Heap} {D : Addr} {ao : AO} (a : At C h σ) (hb : C.h₀.get? D = none) (ro : RepO C h D ao) : At C h (upd σ D ao) := by
  refine ⟨a.keep, fun b o eb => ?_, fun b o eb => ?_⟩
  · by_cases q : b = D
    · subst q; rw [upd_same] at eb; cases eb; exact ro
    · rw [upd_ne _ _ q] at eb; exact a.objs b o eb
  · by_cases q : b = D
    · subst q; exact hb
    · rw [upd_ne _ _ q] at eb; exact a.new b o eb
theorem Stp.add {N : Addr → Prop} {s s' : Shared} {σ' : Sg} {D : Addr} {ao : AO} (x : Stp N s σ s' σ') (hn : s.heap.get? D = none) : Stp N s σ s' (upd σ' D ao) :=
  ⟨x.keep, x.there, fun b o eb hb => by rw [upd_ne _ _ (fun q => by subst q; rw [hn] at eb; cases eb)]; exact x.dom b o eb hb, x.gens, x.os⟩
theorem nsNoTup {h : Heap} {a : Addr} {m : Str → Option Value} (x : h.Ns a m) : NoTup (fun b => b = a) h := fun b n o eo hc items k hd => by
  refine Classical.byContradiction fun hG => ?_
  subst n
  refine xE3A2 x fun o' es ep e' d' _ => ?_
  try clear x
  refine hG ?_
  clear hG
  rw [eo] at e'; cases e'; rw [hd] at d'; cases d'

/-- what is said of a comprehension -/
noncomputable def CompJ (C : Cx) (R : Rm) (env : Env) (loc : Loc) (x : Str) (elt : Expr) (ifs : List Expr) (scope : Scope) (xs : List V) (Ok : Sg → Prop) (P : List V → Sg → Prop) (σ₁ : Sg) : Prop :=
  xs.length ≤ 100000 ∧ ∃ J : Nat → List V → Sg → Prop, J 0 [] σ₁ ∧ (∀ i acc s, J i acc s → Ok s ∧ acc.length ≤ i) ∧
    (∀ Cn i y acc σ', xs[i]? = some y → J i acc σ' → WT C R (compEnvC scope (clOf scope env) Cn env) (setL (locF scope env loc) x y) ifs (fun b σ'' => if b then WE C R (compEnvC scope (clOf scope env) Cn env) (setL (locF scope env loc) x y) (eval elt (compEnvC scope (clOf scope env) Cn env)) (fun z σ₃ => J (i + 1) (acc ++ [z]) σ₃) σ'' else J (i + 1) acc σ'') σ') ∧
    (∀ acc s, J xs.length acc s → P acc s)

theorem compOk_parts {scope : Scope} {x : Str} (hok : compOk scope env x = true) : (∀ z ∈ frees scope, env.kindOf z = some .cell) ∧ scope.kind = .function ∧ (∀ y ∈ scope.names, y.2 = .local → scope.names.lookup y.1 = some .local) := by
  unfold compOk at hok
  simp only [Bool.and_eq_true, List.all_eq_true, bne_iff_ne, ne_eq, beq_iff_eq, Bool.or_eq_true] at hok
  refine Classical.byContradiction fun hG => ?_
  refine xE0A1 hok fun hr1_ c5 => ?_
  try clear hok
  refine xE0A1 hr1_ fun hr1_ c4 => ?_
  obtain ⟨⟨c1, c2⟩, c3⟩ := hr1_
  refine hG ?_
  clear hG
  exact ⟨c2, c5, fun y hy hk => (c4 y hy).elim (fun q => absurd hk q) id⟩

theorem W_ListComp {elt iter : Expr} {x : Str} {px pos : Pos} {ifs : List Expr} {scope : Scope} {P : V → Sg → Prop} (hok : compOk scope env x = true)
    (h : WI C R env loc iter (fun xs Ok σ₁ => CompJ C R env loc x elt ifs scope xs Ok (fun acc s => ∀ a, s a = none → P (.ref a) (upd s a (.list acc))) σ₁) σ)
    (hs : ∀ x, foldedSetIterable iter env x = pure x := by intro _; rfl) : WE C R env loc (eval (.ListComp elt [⟨.Name x px, iter, ifs, 0⟩] scope pos) env) P σ := by
  intro A s Q E r a f k
  refine xE0A2 (compOk_parts hok) fun c2 c5 c4 => ?_
  rw [eval_ListComp]
  refine wpAny_comprehension_free (use := none) rfl hs (closureFor_cl fun z hz => f.has z (.inl (c2 z hz))) c5 c4 (h A s _ E r a f fun it xs Ok I s₂ σ₂ a₂ f₂ e₃ hn hb hσ ho hst hJ => ?_)
  refine Classical.byContradiction fun hG => ?_
  refine xE0A1 hJ fun hlen hz2_ => ?_
  try clear hJ
  refine xE1A3 hz2_ fun J h0 hJ turn fin => ?_
  clear hz2_
  refine hG ?_
  clear hG
  refine comp_core I (RR := fun acc C' => compPost (model C.prog C.w) A E none Q acc C') r a₂ f₂ e₃ hn hst hσ ho hb hok hlen J h0 hJ turn fun D Cn s' σ' acc z1 z2 z3 z4 z5 z6 z7 z8 z9 z10 z11 z12 => ?_
  refine xE1A0 z9 fun m hm => ?_
  try clear z9
  refine ⟨m, hm, fun h' hs' => ?_⟩
  refine xE2A1 z10 fun items n hd hr => ?_
  try clear z10
  have nt := nsNoTup hm
  have a3 := z2.ext z11 z12 hs'.extBut nt
  have hn0 : ∀ b, s₂.heap.get? b = none → s.heap.get? b = none := fun b e => by
    cases q : s.heap.get? b with
    | none => rfl
    | some o =>
      refine xE1A0 (e₃.there b o q) fun o' e' => ?_
      rw [e] at e'; cases e'
  have st3 := z3.ext (hn0 Cn z5) hs'.extBut s'.toks
  have ro : RepO C h' D (.list acc) := ⟨items, n, hs'.extBut _ _ z6 hd, hr.keep (N := fun b => b = Cn) (fun b o eb n => hs'.extBut b o n eb) nt⟩
  exact k _ _ { s' with heap := h' } _ (.ref D) (a3.add z8 ro) (st3.add (hn0 D z4)) (fin acc σ' z1 D z7)

theorem S_AssignComp {y : Str} {py : Pos} {elt iter : Expr} {x : Str} {px pos spos : Pos} {ifs : List Expr} {scope : Scope} (hsw : swapsWith (.ListComp elt [⟨.Name x px, iter, ifs, 0⟩] scope pos) (some (.Name y py)) spos.line env = pure true)
    (hk : env.kindOf y = some .local ∨ env.kindOf y = some .cell) (hok : compOk scope env x = true)
    (h : WI C R env loc iter (fun xs Ok σ₁ => CompJ C R env loc x elt ifs scope xs Ok (fun acc s => ∀ a, s a = none → PS .next (setL loc y (.ref a)) (upd s a (.list acc))) σ₁) σ)
    (hs : ∀ x, foldedSetIterable iter env x = pure x := by intro _; rfl) : WS C R env X (exec (.Assign [.Name y py] (.ListComp elt [⟨.Name x px, iter, ifs, 0⟩] scope pos) spos) env) PS loc σ := by
  intro A s Q E r a f k kx
  refine xE0A2 (compOk_parts hok) fun c2 c5 c4 => ?_
  rw [exec_Assign_Name_used _ _ _ _ hsw]
  refine wpAny_bind (wpAny_standAt (wpAny_bind ?_))
  show wpAny _ A (do let _ ← comprehension (.ListComp elt [⟨.Name x px, iter, ifs, 0⟩] scope pos) scope env _ (newList []) false (eval iter env) (some (assign (.Name y py) env))) _ _ s
  refine wpAny_bind (wpAny_mono (wpAny_comprehension_free (use := some (assign (.Name y py) env)) (Q := fun _ s' => Q .next s') rfl hs (closureFor_cl fun z hz => f.has z (.inl (c2 z hz))) c5 c4
    (h A s _ E r a f fun it xs Ok I s₂ σ₂ a₂ f₂ e₃ hn hb hσ ho hst hJ => ?_)) (fun _ s' hq => wpAny_pure (wpAny_pure hq)) fun _ _ e => e)
  refine Classical.byContradiction fun hG => ?_
  refine xE0A1 hJ fun hlen hz3_ => ?_
  try clear hJ
  refine xE1A3 hz3_ fun J h0 hJ turn fin => ?_
  clear hz3_
  refine hG ?_
  clear hG
  refine comp_core I (RR := fun acc C' => compPost (model C.prog C.w) A E (some (assign (.Name y py) env)) (fun _ s' => Q .next s') acc C') r a₂ f₂ e₃ hn hst hσ ho hb hok hlen J h0 hJ turn fun D Cn s' σ' acc z1 z2 z3 z4 z5 z6 z7 z8 z9 z10 z11 z12 => ?_
  refine Classical.byContradiction fun hG => ?_
  refine xE1A0 z9 fun m hm => ?_
  try clear z9
  refine xE2A1 z10 fun items n hd hr => ?_
  try clear z10
  refine hG ?_
  clear hG
  have hn0 : ∀ b, s₂.heap.get? b = none → s.heap.get? b = none := fun b e => by
    cases q : s.heap.get? b with
    | none => rfl
    | some o =>
      refine xE1A0 (e₃.there b o q) fun o' e' => ?_
      rw [e] at e'; cases e'
  have a3 := z2.add (ao := .list acc) z8 (show RepO C s'.heap D (.list acc) from ⟨items, n, hd, hr⟩)
  have st3 : Stp Nil s σ s' (upd σ' D (.list acc)) := z3.add (hn0 D z4)
  have f3 := f.step a st3
  have hoCn : ¬ Own env Cn := fun q => by
    rcases q with rfl | ⟨z, hz⟩
    · refine Classical.byContradiction fun hG => ?_
      refine xE1A1 f.vars fun m' hr4_ _ => ?_
      refine xE3A1 hr4_ fun o es ep e _ => ?_
      try clear hr4_
      refine hG ?_
      clear hG
      rw [hn0 _ z5] at e; cases e
    · refine xE2A1 (f.cell z Cn hz) fun o cv e _ => ?_
      rw [hn0 _ z5] at e; cases e
  have hσC : (upd σ' D (.list acc)) Cn = none := by rw [upd_ne _ _ (Ne.symm z6)]; exact z12
  show wpAny _ A (assign (.Name y py) env (.ref D)) _ _ _
  refine PyProof.Rows.assign_Name (wp_store a3 f3 hk (.ref D) fun s4 a4 f4 st4 _ => ?_)
  have hm4 : s4.heap.Ns Cn m := by
    refine xE3A1 hm fun o es ep q rr => ?_
    try clear hm
    exact ⟨o, es, ep, st4.keep _ _ q hσC hoCn, rr⟩
  refine ⟨m, hm4, fun h' hs' => ?_⟩
  have nt := nsNoTup hm4
  have st5 := (st3.own (env := env)).transO f3 st4
  exact k _ _ { s4 with heap := h' } _ _ .next (a4.ext z11 hσC hs'.extBut nt) (f4.ext hoCn hs'.extBut nt) (st5.ext (hn0 Cn z5) hs'.extBut s4.toks) (fin acc σ' z1 D z7)
end
end Mine
end
section
set_option Elab.async false
set_option maxRecDepth 100000
set_option linter.unusedVariables false
namespace Mine
open PySem PySem.W PyProof PySem.SeqAt

theorem cellsFrom_has {x : Str} : ∀ (names : List (Str × NameKind)) (n : Nat) (acc : List (Str × Addr)), ((x, .cell) ∈ names ∨ (acc.lookup x).isSome = true) → ((cellsFrom n names acc).lookup x).isSome = true
  | [], n, acc, h => by rcases h with h | h; · cases h
                        · exact h
  | (y, k) :: r, n, acc, h => by
    unfold cellsFrom
    by_cases hk : k = .cell
    · subst hk
      simp only [beq_self_eq_true, if_true]
      refine cellsFrom_has r _ _ ?_
      rcases h with h | h
      · rcases List.mem_cons.mp h with e | h
        · cases e; right; simp [List.lookup_cons]
        · exact .inl h
      · right
        rw [List.lookup_cons]
        cases hb : x == y with
        | true => rfl
        | false => exact h
    · have : (k == NameKind.cell) = false := by simpa using hk
      simp only [this, Bool.false_eq_true, if_false]
      refine cellsFrom_has r _ _ ?_
      rcases h with h | h
      · rcases List.mem_cons.mp h with e | h
        · cases e; exact absurd rfl hk
        · exact .inl h
      · exact .inr h

theorem lookup_rev_cons {β : Type} {x n : Str} {v : β} {r : List (Str × β)} {d : Option β} : ((((n, v) :: r).reverse).lookup x).or d = ((r.reverse).lookup x).or (if x = n then some v else d) := by
  rw [List.reverse_cons]
  have key : ∀ l : List (Str × β), ((l ++ [(n, v)]).lookup x) = (l.lookup x).or (if x = n then some v else none) := by
    intro l
    induction l with
    | nil =>
      rw [List.nil_append, List.lookup_cons]
      cases hb : x == n with
      | true => have := eq_of_beq hb; subst this; simp
      | false => have : x ≠ n := by simpa using hb
                 simp [this]
    | cons p l ih =>
      rw [List.cons_append, List.lookup_cons, List.lookup_cons, ih]
      cases x == p.1 <;> rfl
  rw [key]
  cases (r.reverse).lookup x with
  | some _ => rfl
  | none => by_cases q : x = n <;> simp [q]
theorem bindL_eq {kd : Str → Option NameKind} {x : Str} (hx : kd x = some .local) : ∀ (binds : List (Str × Value)) (m : Str → Option Value), bindL kd binds m x = ((binds.reverse).lookup x).or (m x)
  | [], m => by simp [bindL]
  | (n, v) :: r, m => by
    rw [bindL, bindL_eq hx r, lookup_rev_cons]
    congr 1
    by_cases q : x = n
    · subst q; simp [hx]
    · by_cases h : kd n = some .local <;> simp [q, h]
theorem bindC_eq {kd : Str → Option NameKind} {x : Str} (hx : kd x ≠ some .local) : ∀ (binds : List (Str × Value)) (m : Str → Option Value), bindC kd binds m x = ((binds.reverse).lookup x).or (m x)
  | [], m => by simp [bindC]
  | (n, v) :: r, m => by
    rw [bindC, bindC_eq hx r, lookup_rev_cons]
    congr 1
    by_cases q : x = n
    · subst q; simp [hx]
    · by_cases h : kd n = some .local <;> simp [q, h]

section
variable {C : Cx} {R : Rm} {env : Env} {loc : Loc} {σ : Sg} {X : XT C R env} {PS : Fl → Loc → Sg → Prop}

/-- the frame of a function with cells -/
theorem Fo.ofCalls {fd : FuncData} {f : Addr} {names : List Str} {vals : List Value} {args : List V} {s s₁ : Shared} (a : At C s.heap σ) (rv : Reps s.heap vals args)
    (x : InCallC s s.heap.objs.size (bindL (callEnvC fd s.heap.objs.size f).kindOf (names.zip vals) fun _ => none) (callEnvC fd s.heap.objs.size f).cells (bindC (callEnvC fd s.heap.objs.size f).kindOf (names.zip vals) fun _ => none) s₁)
    (hg : fd.globals = mainGlobals) (hbi : fd.builtins = builtinsNs) (hk : fd.scope.kind = .function) (hfree : ∀ z ∈ fd.scope.names, z.2 ≠ .free) :
    At C s₁.heap σ ∧ Fo C s₁.heap σ (callEnvC fd s.heap.objs.size f) (locOf names args) ∧ Stp Nil s σ s₁ σ ∧ ∀ b, Own (callEnvC fd s.heap.objs.size f) b → s.heap.get? b = none := by
  have hk1 := x.toInCall.keep
  have a₁ : At C s₁.heap σ := a.grow hk1
  refine xE2A1 x.done fun h' tk hr1_ hk2 => ?_
  obtain rfl := hr1_
  have st : Stp Nil s σ { s with heap := h', toks := tk } σ := Stp.grow Nil s σ tk hk2
  have own : ∀ b, Own (callEnvC fd s.heap.objs.size f) b → s.heap.objs.size ≤ b := fun b hb => by
    rcases hb with rfl | ⟨z, hz⟩
    · exact Nat.le_refl _
    · exact Nat.le_of_lt (x.above z b (mem_lookup hz))
  have ownN : ∀ b, Own (callEnvC fd s.heap.objs.size f) b → s.heap.get? b = none := fun b hb => Heap.get?_none_of_le (own b hb)
  refine ⟨a₁, ⟨hk, hg, hbi, ⟨_, x.toInCall.ns, fun z v hv hz => ?_⟩, fun z c hc => ?_, fun z hz => ?_, fun z y c hz hy => ?_, fun b hb => ⟨?_, ?_⟩⟩, st, ownN⟩
  · refine xE1A1 (lookup_zip rv hv) fun val e1 e2 => ?_
    refine ⟨val, ?_, st.rep a e2⟩
    rw [bindL_eq hz, e1]; rfl
  · refine xE1A1 (x.cell z c hc) fun o ho hd => ?_
    refine ⟨o, _, ho, hd, fun v hv hz => ?_⟩
    refine xE1A1 (lookup_zip rv hv) fun val e1 e2 => ?_
    refine ⟨val, ?_, st.rep a e2⟩
    rw [bindC_eq (fun q => by rcases hz with hz | hz <;> rw [q] at hz <;> cases hz), e1]; rfl
  · have hz' : fd.scope.names.lookup z = some .cell := by
      rcases hz with hz | hz
      · exact hz
      · exact absurd rfl (hfree _ (mem_lookup (show fd.scope.names.lookup z = some .free from hz)))
    exact Option.isSome_iff_exists.mp (cellsFrom_has fd.scope.names (s.heap.objs.size + 1) [] (.inl (mem_lookup hz')))
  · exact name_of_addr x.apart (mem_lookup hz) (mem_lookup hy)
  · cases q : C.h₀.get? b with
    | none => rfl
    | some o => have := a.keep b o q; rw [ownN b hb] at this; cases this
  · cases q : σ b with
    | none => rfl
    | some o => exact absurd (a.lt q) (Nat.not_lt.mpr (own b hb))

theorem WC_defC {f : Addr} {oc : Value} {od : Option Addr} {osl : Array (Option Value)} {fd : FuncData} {body : List Stmt} {args : List V} {names : List Str} {P : V → Sg → Prop} {n : Nat} (R' : Around → Prop)
    (hR : ∀ A, R' A → (lv (n + 1)).P A)
    (hK : C.K.lookup f = some ⟨oc, od, .func fd, osl⟩) (hcd : codeIn C.K fd.code fd.qualname = true) (hbody : fd.body = .stmts body)
    (hg : fd.globals = mainGlobals) (hbi : fd.builtins = builtinsNs) (hcl : fd.closure = []) (hb : ∀ vals : List Value, vals.length = args.length → bindArgs fd ⟨vals, []⟩ = pure (names.zip vals))
    (hsc : fd.scope.names.all (fun x => x.2 != .free) = true) (hloc : (names.all fun x => decide (fd.scope.names.lookup x = some .local ∨ fd.scope.names.lookup x = some .cell)) = true)
    (h : ∀ L, σ L = none → (∀ z c, (callEnvC fd L f).cells.lookup z = some c → σ c = none) → ∀ Qp : V → Sg → Prop, (∀ x s, P x s → Qp x s) → WS C (lv n) (callEnvC fd L f) (.no ..) (execs body (callEnvC fd L f)) (Rq Qp) (locOf names args) σ)
    (hco : fd.scope.isCoroutine = false := by rfl) (hgen : fd.scope.isGenerator = false := by rfl) (hk : fd.scope.kind = .function := by rfl) :
    WC C R' f args P σ := by
  intro A s Q E vals r a rv k
  have X := C.kin.keeps a.keep
  have hfree : ∀ z ∈ fd.scope.names, z.2 ≠ .free := fun z hz => by
    have := List.all_eq_true.mp hsc z hz
    simpa using this
  refine codeAny_call_cells (by have := (hR A r).2.1; rw [recLimit_eq]; (first | lia | omega)) (X _ _ hK) rfl (C.top.nolimit.keeps a.keep) (codeRec_of X hcd) hbody (hb vals rv.length) hcl (fun x hx => ?_) (fun s₁ x => ?_) hco hgen hk
  · obtain ⟨x1, x2⟩ := x
    have hm := (List.of_mem_zip hx).1
    have := of_decide_eq_true (List.all_eq_true.mp hloc _ hm)
    rcases this with q | q
    · exact .inl q
    · exact .inr ⟨q, cellsFrom_has _ _ _ (.inl (mem_lookup q))⟩
  · refine xE0A3 (Fo.ofCalls a rv x hg hbi hk hfree) fun a₁ fo st₁ own => ?_
    refine h _ a.fresh (fun z c hc => (fo.new c (.inr ⟨z, hc⟩)).2) P (fun _ _ h => h) _ s₁ _ _ (lv_deeper (hR A r) _) a₁ fo (fun fw fl s' loc' σ' e1 e2 e3 e4 e5 => ?_) fun _ _ q => q.elim
    refine xE1A1 e5 fun σ'' hs hp => ?_
    try clear e5
    have st : Stp Nil s σ s' σ' := by
      refine ⟨fun b o e hb _ => e4.keep b o (st₁.keep b o e hb id) hb fun q => ?_, fun b o e => ?_, fun b o e hb => ?_, e4.gens.trans st₁.gens, e4.os.trans st₁.os⟩
      · have := own b q; rw [e] at this; cases this
      · refine xE1A0 (st₁.there b o e) fun o' e' => ?_
        exact e4.there b o' e'
      · refine xE1A0 (st₁.there b o e) fun o' e' => ?_
        exact e4.dom b o' e' hb
    refine k _ (retV fl) s' σ'' ?_ (e2.forget hs) (st.forget hs) hp
    cases e1 with
    | next => exact .none
    | brk => exact .none
    | cont => exact .none
    | ret hv => exact hv
end
end Mine
end
section
set_option Elab.async false
set_option maxRecDepth 100000
set_option linter.unusedVariables false
namespace Mine
open PySem PySem.W PyProof PySem.SeqAt

section
variable {C : Cx} {R : Rm} {env : Env} {loc : Loc} {σ : Sg} {X : XT C R env} {PS : Fl → Loc → Sg → Prop}

/-! ### tests of ints, by cases -/
theorem T_eq {i j : Int} {P : Bool → Sg → Prop} (h1 : i = j → P true σ) (h2 : i ≠ j → P false σ) : OpV C R env loc (compareOp .Eq) (.int i) (.int j) (TB P) σ :=
  Op_cmp (b := i == j) rfl ⟨_, rfl, by
    by_cases q : i = j
    · rw [beq_iff_eq.mpr q]; exact h1 q
    · rw [show (i == j) = false by simpa using q]; exact h2 q⟩
theorem T_ne {i j : Int} {P : Bool → Sg → Prop} (h1 : i ≠ j → P true σ) (h2 : i = j → P false σ) : OpV C R env loc (compareOp .NotEq) (.int i) (.int j) (TB P) σ :=
  Op_cmp (b := i != j) rfl ⟨_, rfl, by
    by_cases q : i = j
    · rw [show (i != j) = false by simpa using q]; exact h2 q
    · rw [show (i != j) = true by simpa using q]; exact h1 q⟩
theorem T_lt {i j : Int} {P : Bool → Sg → Prop} (h1 : i < j → P true σ) (h2 : ¬ i < j → P false σ) : OpV C R env loc (compareOp .Lt) (.int i) (.int j) (TB P) σ :=
  Op_cmp (b := decide (i < j)) rfl ⟨_, rfl, by
    by_cases q : i < j
    · rw [decide_eq_true q]; exact h1 q
    · rw [decide_eq_false q]; exact h2 q⟩
theorem T_le {i j : Int} {P : Bool → Sg → Prop} (h1 : i ≤ j → P true σ) (h2 : ¬ i ≤ j → P false σ) : OpV C R env loc (compareOp .LtE) (.int i) (.int j) (TB P) σ :=
  Op_cmp (b := decide (i ≤ j)) rfl ⟨_, rfl, by
    by_cases q : i ≤ j
    · rw [decide_eq_true q]; exact h1 q
    · rw [decide_eq_false q]; exact h2 q⟩
theorem T_gt {i j : Int} {P : Bool → Sg → Prop} (h1 : i > j → P true σ) (h2 : ¬ i > j → P false σ) : OpV C R env loc (compareOp .Gt) (.int i) (.int j) (TB P) σ :=
  Op_cmp (b := decide (i > j)) rfl ⟨_, rfl, by
    by_cases q : i > j
    · rw [decide_eq_true q]; exact h1 q
    · rw [decide_eq_false q]; exact h2 q⟩
theorem T_ge {i j : Int} {P : Bool → Sg → Prop} (h1 : i ≥ j → P true σ) (h2 : ¬ i ≥ j → P false σ) : OpV C R env loc (compareOp .GtE) (.int i) (.int j) (TB P) σ :=
  Op_cmp (b := decide (i ≥ j)) rfl ⟨_, rfl, by
    by_cases q : i ≥ j
    · rw [decide_eq_true q]; exact h1 q
    · rw [decide_eq_false q]; exact h2 q⟩

/-! ### cells: pairs of ints -/
noncomputable abbrev Cell := Int × Int
noncomputable def cv (c : Cell) : V := .tup [.int c.1, .int c.2]
theorem cv_eq (c d : Cell) : PyData.eqv (cv c).py (cv d).py = decide (c = d) := by
  obtain ⟨a, b⟩ := c; obtain ⟨x, y⟩ := d
  have h1 : PyData.eqv (cv (a, b)).py (cv (x, y)).py = (a == x && b == y) := by simp [cv, V.py, V.pys, PyData.eqv, PyData.eqvAll]
  rw [h1, Bool.eq_iff_iff]
  simp
theorem cv_flat (c : Cell) : (cv c).flat = true := by simp [cv, V.flat, V.flats]
theorem cv_shaped (c : Cell) : shaped (cv c).py = true := by simp [cv, V.py, V.pys, shaped, PyData.canLay0, PyData.canLayAll0, PyData.depth, PyData.depthAll]
theorem T_eqc {c d : Cell} {P : Bool → Sg → Prop} (h1 : c = d → P true σ) (h2 : c ≠ d → P false σ) : OpV C R env loc (compareOp .Eq) (cv c) (cv d) (TB P) σ :=
  Op_eqD (cv_flat _) (cv_flat _) (cv_shaped _) (cv_shaped _) ⟨_, rfl, by
    rw [cv_eq]
    by_cases q : c = d
    · rw [decide_eq_true q]; exact h1 q
    · rw [decide_eq_false q]; exact h2 q⟩
theorem cvs_flat (l : List Cell) : V.flats (l.map cv) = true := by
  induction l with
  | nil => rfl
  | cons a l ih => simp [V.flats, cv_flat, ih]
theorem cvs_can (l : List Cell) : PyData.canLayAll0 (V.pys (l.map cv)) = true ∧ PyData.depthAll (V.pys (l.map cv)) ≤ 1 := by
  induction l with
  | nil => exact ⟨rfl, Nat.zero_le _⟩
  | cons a l ih =>
    have h1 : PyData.canLay0 (cv a).py = true := by simp [cv, V.py, V.pys, PyData.canLay0, PyData.canLayAll0]
    have h2 : PyData.depth (cv a).py = 1 := by simp [cv, V.py, V.pys, PyData.depth, PyData.depthAll]
    simp only [List.map_cons, V.pys, PyData.canLayAll0, PyData.depthAll, h1, h2, ih.1, Bool.and_self, true_and]
    exact Nat.max_le.mpr ⟨Nat.le_refl _, ih.2⟩
theorem cvs_shaped (l : List Cell) : shaped (.list (V.pys (l.map cv))) = true := by
  refine xE0A1 (cvs_can l) fun h1 h2 => ?_
  unfold shaped
  rw [Bool.and_eq_true]
  exact ⟨by simp only [PyData.canLay0, h1], decide_eq_true (by simp only [PyData.depth]; (first | lia | omega))⟩
theorem cvs_eq : ∀ (l m : List Cell), PyData.eqvAll (V.pys (l.map cv)) (V.pys (m.map cv)) = decide (l = m)
  | [], [] => by simp [V.pys, PyData.eqvAll]
  | [], _ :: _ => by simp [V.pys, PyData.eqvAll]
  | _ :: _, [] => by simp [V.pys, PyData.eqvAll]
  | a :: l, b :: m => by
    simp only [List.map_cons, V.pys, PyData.eqvAll, cv_eq, cvs_eq l m]
    rw [Bool.eq_iff_iff]; simp

/-! ### and, or as values of bools -/
theorem W_Or2 {l r : Expr} {pos : Pos} {P : V → Sg → Prop}
    (h : WE C R env loc (eval l env) (fun x σ₁ => ∃ b, x = .bool b ∧ if b then P (.bool true) σ₁ else WE C R env loc (eval r env) P σ₁) σ) : WE C R env loc (eval (.BoolOp .Or [l, r] pos) env) P σ := by
  intro A s Q E r' a f k
  refine wpAny_Or2 (h A s _ E r' a f fun v x s₁ σ₁ e1 e2 e3 e4 => ?_)
  refine xE1A1 e4 fun b hr1_ hb => ?_
  try clear e4
  obtain rfl := hr1_
  cases e1
  have f1 := f.step a e3
  refine wpAny_truthy_bool ?_
  cases b with
  | true => exact k _ _ s₁ σ₁ (.bool _) e2 e3 (by simpa using hb)
  | false => exact (show WE C R env loc (eval r env) P σ₁ by simpa using hb) A s₁ _ E r' e2 f1 fun v x s' σ' z1 z2 z3 z4 => k v x s' σ' z1 z2 (e3.trans z3) z4
end
end Mine
end
section
set_option Elab.async false
set_option linter.unusedVariables false
namespace Mine
open PySem PySem.W

/-- the chain from a cell -/
inductive Der (cells : List Cell) : Nat → Cell → Cell → Prop
  | stop {c} : c.1 ≠ 0 → c.1 ≠ 1 → Der cells 0 c c
  | self {c} : c.1 = 0 → 0 ≤ c.2 → cells[c.2.toNat]? = some c → Der cells 0 c c
  | step {n c d e} : c.1 = 0 → 0 ≤ c.2 → cells[c.2.toNat]? = some d → d ≠ c → Der cells n d e → Der cells (n + 1) c e
/-- how wide a cell is -/
inductive Wid (cells fs : List Cell) : Cell → Nat → Prop
  | lis {c} : c.1 = 3 → 0 ≤ c.2 → Wid cells fs c 2
  | str {c f p} : c.1 = 2 → 0 ≤ c.2 → cells[c.2.toNat]? = some f → 0 ≤ f.2 → fs[f.2.toNat]? = some p → ∀ w : Nat, p.2 = (w : Int) → Wid cells fs c w
/-- the arguments of a compound lie there -/
noncomputable def bas (c : Cell) : Int := if c.1 = 3 then c.2 else c.2 + 1
noncomputable def ArgsAre (cells : List Cell) (c : Cell) (as : List Cell) : Prop := 0 ≤ bas c ∧ ∀ i : Nat, i < as.length → cells[((bas c) + i).toNat]? = as[i]?

/-! ### the graph on the heap -/
inductive Tgt where
  | node (k : Nat)
  | nil
  | num
  | var (a : Int)
inductive All2 {α β : Type} (R : α → β → Prop) : List α → List β → Prop
  | nil : All2 R [] []
  | cons {a b l m} : R a b → All2 R l m → All2 R (a :: l) (b :: m)
theorem All2.append {α β : Type} {R : α → β → Prop} {l l' : List α} {m m' : List β} (h : All2 R l m) (h' : All2 R l' m') : All2 R (l ++ l') (m ++ m') := by
  induction h with
  | nil => exact h'
  | cons a _ ih => exact .cons a ih
theorem All2.length {α β : Type} {R : α → β → Prop} {l : List α} {m : List β} (h : All2 R l m) : l.length = m.length := by
  induction h with
  | nil => rfl
  | cons _ _ ih => exact congrArg (· + 1) ih
theorem All2.get {α β : Type} {R : α → β → Prop} {l : List α} {m : List β} (h : All2 R l m) {i : Nat} {b : β} (e : m[i]? = some b) : ∃ a, l[i]? = some a ∧ R a b := by
  induction h generalizing i with
  | nil => cases e
  | cons a _ ih =>
    cases i with
    | zero => obtain rfl := Option.some.inj e; exact ⟨_, rfl, a⟩
    | succ i => exact ih e

structure Gr where
  T : Nat
  nd : Nat → Cell
  ch : Nat → List Tgt
noncomputable def Gr.cell (g : Gr) : Tgt → Cell
  | .node k => g.nd k
  | .nil => (4, 0)
  | .num => (5, 7)
  | .var a => (0, a)
noncomputable def Lead (g : Gr) (cells : List Cell) (a : Cell) (t : Tgt) : Prop := (∃ n, Der cells n a (g.cell t)) ∧ ∀ k, t = .node k → k < g.T
structure GrOk (g : Gr) (cells fs : List Cell) : Prop where
  comp : ∀ k, k < g.T → (g.nd k).1 = 2 ∨ (g.nd k).1 = 3
  wid : ∀ k, k < g.T → Wid cells fs (g.nd k) (g.ch k).length
  args : ∀ k, k < g.T → ∃ as, ArgsAre cells (g.nd k) as ∧ All2 (Lead g cells) as (g.ch k)
  inj : ∀ j k, j < g.T → k < g.T → (g.nd j).2 = (g.nd k).2 → j = k
  small : g.T ≤ 5
  w3 : ∀ k, k < g.T → 1 ≤ (g.ch k).length ∧ (g.ch k).length ≤ 3
/-- what is reached from a target -/
inductive Rt (g : Gr) (t₀ : Tgt) : Tgt → Prop
  | root : Rt g t₀ t₀
  | step {k t} : Rt g t₀ (.node k) → t ∈ g.ch k → Rt g t₀ t

/-! ### the search for unbound arguments -/
noncomputable def Gr.okT (g : Gr) (M : Int → Bool) : Tgt → Prop
  | .node j => M (g.nd j).2 = true
  | .var _ => False
  | _ => True
structure GI (g : Gr) (t₀ : Tgt) (M : Int → Bool) (W : List Tgt) : Prop where
  reach : ∀ t ∈ W, Rt g t₀ t
  closed : ∀ k, k < g.T → M (g.nd k).2 = true → ∀ t ∈ g.ch k, t ∈ W ∨ g.okT M t
  root : t₀ ∈ W ∨ g.okT M t₀
theorem GI.fin {g : Gr} {t₀ : Tgt} {M : Int → Bool} (h : GI g t₀ M []) (hT : ∀ t, Rt g t₀ t → ∀ k, t = .node k → k < g.T) : ∀ t, Rt g t₀ t → g.okT M t := by
  intro t ht
  induction ht with
  | root => exact h.root.resolve_left (fun q => nomatch q)
  | @step k t hk hm ih => exact (h.closed k (hT _ hk k rfl) ih t hm).resolve_left (fun q => nomatch q)
theorem okT_mono {g : Gr} {M M' : Int → Bool} (hM : ∀ i, M i = true → M' i = true) {t : Tgt} (h : g.okT M t) : g.okT M' t := by
  cases t <;> first | exact hM _ h | exact h
/-- a target off the list that is settled -/
theorem GI.drop {g : Gr} {t₀ t : Tgt} {M : Int → Bool} {W : List Tgt} (h : GI g t₀ M (t :: W)) (ht : g.okT M t) : GI g t₀ M W :=
  ⟨fun u hu => h.reach u (.tail _ hu), fun k hk hM u hu => by
    rcases h.closed k hk hM u hu with q | q
    · rcases List.mem_cons.mp q with rfl | q
      · exact .inr ht
      · exact .inl q
    · exact .inr q, by
    rcases h.root with q | q
    · rcases List.mem_cons.mp q with rfl | q
      · exact .inr ht
      · exact .inl q
    · exact .inr q⟩
theorem GI.visit {g : Gr} {t₀ : Tgt} {k : Nat} {M : Int → Bool} {W : List Tgt} (h : GI g t₀ M (.node k :: W)) (hk : k < g.T) (inj : ∀ j k, j < g.T → k < g.T → (g.nd j).2 = (g.nd k).2 → j = k) :
    GI g t₀ (fun i => M i || decide (i = (g.nd k).2)) (g.ch k ++ W) := by
  have mono : ∀ i, M i = true → (M i || decide (i = (g.nd k).2)) = true := fun i hi => by rw [hi]; rfl
  have self : g.okT (fun i => M i || decide (i = (g.nd k).2)) (.node k) := by simp [Gr.okT]
  refine ⟨fun u hu => ?_, fun j hj hM u hu => ?_, ?_⟩
  · rcases List.mem_append.mp hu with q | q
    · exact .step (h.reach _ (.head _)) q
    · exact h.reach u (.tail _ q)
  · simp only [Bool.or_eq_true, decide_eq_true_eq] at hM
    rcases hM with hM | hM
    · rcases h.closed j hj hM u hu with q | q
      · rcases List.mem_cons.mp q with rfl | q
        · exact .inr self
        · exact .inl (List.mem_append_right _ q)
      · exact .inr (okT_mono mono q)
    · have := inj j k hj hk hM
      subst this
      exact .inl (List.mem_append_left _ hu)
  · rcases h.root with q | q
    · rcases List.mem_cons.mp q with e | q
      · rw [e]; exact .inr self
      · exact .inl (List.mem_append_right _ q)
    · exact .inr (okT_mono mono q)
noncomputable def unmet (g : Gr) (M : Int → Bool) : Nat := ((List.range g.T).filter fun k => !M (g.nd k).2).length
theorem filter_lt {α : Type} (p q : α → Bool) (l : List α) (h : ∀ x ∈ l, q x = true → p x = true) {y : α} (hy : y ∈ l) (h1 : p y = true) (h2 : q y = false) : (l.filter q).length < (l.filter p).length := by
  induction l with
  | nil => cases hy
  | cons a l ih =>
    have le : ∀ l : List α, (∀ x ∈ l, q x = true → p x = true) → (l.filter q).length ≤ (l.filter p).length := by
      intro l hl
      induction l with
      | nil => simp
      | cons b l ih' =>
        have := ih' (fun x hx => hl x (.tail _ hx))
        by_cases hb : q b = true
        · rw [List.filter_cons_of_pos hb, List.filter_cons_of_pos (hl b (.head _) hb)]; simpa using this
        · rw [List.filter_cons_of_neg (by simpa using hb)]
          by_cases hp : p b = true
          · rw [List.filter_cons_of_pos hp]; simp; (first | lia | omega)
          · rw [List.filter_cons_of_neg (by simpa using hp)]; exact this
    rcases List.mem_cons.mp hy with rfl | hy
    · rw [List.filter_cons_of_neg (by simp [h2]), List.filter_cons_of_pos h1]
      have := le l fun x hx => h x (.tail _ hx)
      simp; (first | lia | omega)
    · have := ih (fun x hx => h x (.tail _ hx)) hy
      by_cases hb : q a = true
      · rw [List.filter_cons_of_pos hb, List.filter_cons_of_pos (h a (.head _) hb)]; simpa using this
      · rw [List.filter_cons_of_neg (by simpa using hb)]
        by_cases hp : p a = true
        · rw [List.filter_cons_of_pos hp]; simp; (first | lia | omega)
        · rw [List.filter_cons_of_neg (by simpa using hp)]; exact this
theorem unmet_visit {g : Gr} {M : Int → Bool} {k : Nat} (hk : k < g.T) (hM : M (g.nd k).2 = false) : unmet g (fun i => M i || decide (i = (g.nd k).2)) < unmet g M := by
  unfold unmet
  refine filter_lt _ _ _ (fun x _ hx => ?_) (List.mem_range.mpr hk) (by rw [hM]; rfl) (by simp)
  simp only [Bool.not_or, Bool.and_eq_true] at hx
  exact hx.1
end Mine
end
section
set_option Elab.async false
set_option linter.unusedVariables false
namespace Mine
open PySem PySem.W

/-! ### tails that come to [] -/
inductive ToNil (g : Gr) : Nat → Tgt → Prop
  | nil : ToNil g 0 .nil
  | step {k n t} : (g.nd k).1 = 3 → (g.ch k)[1]? = some t → ToNil g n t → ToNil g (n + 1) (.node k)
structure LI (g : Gr) (t₀ : Tgt) (M : Int → Bool) (t : Tgt) : Prop where
  same : (∃ n, ToNil g n t₀) ↔ ∃ n, ToNil g n t
  met : ∀ k, k < g.T → M (g.nd k).2 = true → ∀ n, ToNil g n (.node k) → ∃ m, m < n ∧ ToNil g m t
  lt : ∀ k, t = .node k → k < g.T
theorem LI.loop {g : Gr} {t₀ : Tgt} {M : Int → Bool} {k : Nat} (h : LI g t₀ M (.node k)) (hM : M (g.nd k).2 = true) : ¬ ∃ n, ToNil g n t₀ := by
  rw [h.same]
  rintro ⟨n, hn⟩
  induction n using Nat.strongRecOn with
  | _ n ih =>
    refine xE1A1 (h.met k (h.lt k rfl) hM n hn) fun m hm q => ?_
    exact ih m hm q
theorem LI.next {g : Gr} {t₀ t : Tgt} {M : Int → Bool} {k : Nat} (h : LI g t₀ M (.node k)) (hl : (g.nd k).1 = 3) (ht : (g.ch k)[1]? = some t) (hlt : ∀ k, t = .node k → k < g.T) (inj : ∀ j k, j < g.T → k < g.T → (g.nd j).2 = (g.nd k).2 → j = k) :
    LI g t₀ (fun i => M i || decide (i = (g.nd k).2)) t := by
  have nx : ∀ n, ToNil g n (.node k) → ∃ m, m < n ∧ ToNil g m t := fun n hn => by
    cases hn with
    | step a b c => rw [ht] at b; cases b; exact ⟨_, Nat.lt_succ_self _, c⟩
  refine ⟨h.same.trans ⟨fun ⟨n, hn⟩ => ?_, fun ⟨n, hn⟩ => ⟨_, .step hl ht hn⟩⟩, fun j hj hM n hn => ?_, hlt⟩
  · refine xE1A1 (nx n hn) fun m _ q => ?_
    exact ⟨m, q⟩
  · simp only [Bool.or_eq_true, decide_eq_true_eq] at hM
    rcases hM with hM | hM
    · refine xE1A1 (h.met j hj hM n hn) fun m hm q => ?_
      refine xE1A1 (nx m q) fun m' hm' q' => ?_
      exact ⟨m', Nat.lt_trans hm' hm, q'⟩
    · have := inj j k hj (h.lt k rfl) hM
      subst this
      exact nx n hn
end Mine
end
section
set_option Elab.async false
set_option linter.unusedVariables false
namespace Mine
open PySem PySem.W

/-! ### no circle below -/
inductive Acy (g : Gr) : Nat → Prop
  | mk {k} : (∀ j, .node j ∈ g.ch k → Acy g j) → Acy g k
inductive Plus (g : Gr) : Nat → Nat → Prop
  | one {a b} : .node b ∈ g.ch a → Plus g a b
  | step {a b c} : Plus g a b → .node c ∈ g.ch b → Plus g a c
theorem Acy.down {g : Gr} {a b : Nat} (h : Plus g a b) : Acy g a → Acy g b := by
  induction h with
  | one e => exact fun ⟨f⟩ => f _ e
  | step _ e ih => exact fun x => by obtain ⟨f⟩ := ih x; exact f _ e
theorem Plus.head {g : Gr} {a b c : Nat} (e : .node b ∈ g.ch a) (h : Plus g b c) : Plus g a c := by
  induction h with
  | one e' => exact .step (.one e) e'
  | step _ e' ih => exact .step ih e'
theorem Plus.first {g : Gr} {a c : Nat} (h : Plus g a c) : ∃ b, .node b ∈ g.ch a ∧ (b = c ∨ Plus g b c) := by
  induction h with
  | one e => exact ⟨_, e, .inl rfl⟩
  | step h e ih =>
    refine xE1A1 ih fun b e1 e2 => ?_
    try clear ih
    rcases e2 with rfl | e2
    · exact ⟨b, e1, .inr (.one e)⟩
    · exact ⟨b, e1, .inr (.step e2 e)⟩
theorem Plus.trans {g : Gr} {a b c : Nat} (h : Plus g a b) (h' : Plus g b c) : Plus g a c := by
  induction h' with
  | one e => exact .step h e
  | step _ e ih => exact .step ih e
theorem Acy.noLoop {g : Gr} {a : Nat} (h : Acy g a) : ¬ Plus g a a := by
  induction h with
  | mk f ih =>
    intro q
    refine xE1A1 q.first fun b e1 e2 => ?_
    rcases e2 with e2 | e2
    · subst e2; exact ih _ e1 q
    · exact ih b e1 (.step e2 e1)

inductive Wk where
  | ent (t : Tgt)
  | ext (k : Nat)
inductive SP (g : Gr) (t₀ : Tgt) : List Wk → List Nat → Prop
  | nil : SP g t₀ [] []
  | ent0 {W} : SP g t₀ W [] → SP g t₀ (.ent t₀ :: W) []
  | ent {t W p path} : SP g t₀ W (p :: path) → t ∈ g.ch p → SP g t₀ (.ent t :: W) (p :: path)
  | ext0 {k W} : SP g t₀ W [] → t₀ = .node k → SP g t₀ (.ext k :: W) [k]
  | ext {k W p path} : SP g t₀ W (p :: path) → .node k ∈ g.ch p → SP g t₀ (.ext k :: W) (k :: p :: path)
theorem SP.chain {g : Gr} {t₀ : Tgt} {W : List Wk} {path : List Nat} (h : SP g t₀ W path) : (∀ p r, path = p :: r → ∀ q ∈ path, q = p ∨ Plus g q p) ∧ (∀ q ∈ path, ∃ r, t₀ = .node r ∧ (r = q ∨ Plus g r q)) := by
  induction h with
  | nil => exact ⟨fun _ _ h => (nomatch h), fun _ h => (nomatch h)⟩
  | ent0 _ ih => exact ⟨fun _ _ h => (nomatch h), fun _ h => (nomatch h)⟩
  | ent _ _ ih => exact ih
  | @ext0 k W _ e ih =>
    refine ⟨fun p r h q hq => ?_, fun q hq => ?_⟩
    · cases h; exact .inl (List.mem_singleton.mp hq)
    · rw [List.mem_singleton.mp hq]; exact ⟨k, e, .inl rfl⟩
  | @ext k W p path _ e ih =>
    refine ⟨fun p' r h q hq => ?_, fun q hq => ?_⟩
    · cases h
      rcases List.mem_cons.mp hq with rfl | hq
      · exact .inl rfl
      · rcases ih.1 p path rfl q hq with rfl | x
        · exact .inr (.one e)
        · exact .inr (.step x e)
    · rcases List.mem_cons.mp hq with rfl | hq
      · refine xE1A1 (ih.2 p (.head _)) fun r e1 e2 => ?_
        rcases e2 with rfl | e2
        · exact ⟨r, e1, .inr (.one e)⟩
        · exact ⟨r, e1, .inr (.step e2 e)⟩
      · exact ih.2 q hq
noncomputable def okB (g : Gr) (s : Int → Int) : Tgt → Prop
  | .node j => s (g.nd j).2 = 2
  | _ => True
noncomputable def Done (g : Gr) (s : Int → Int) : List Tgt → List Wk → Prop
  | _, [] => True
  | ab, .ent t :: W => Done g s (t :: ab) W
  | ab, .ext k :: W => (∀ t ∈ g.ch k, okB g s t ∨ t ∈ ab) ∧ Done g s [.node k] W
theorem Done.mono {g : Gr} {s s' : Int → Int} (hs : ∀ t, okB g s t → okB g s' t) : ∀ {W : List Wk} {ab ab' : List Tgt}, (∀ t ∈ ab, t ∈ ab' ∨ okB g s' t) → Done g s ab W → Done g s' ab' W
  | [], _, _, _, _ => trivial
  | .ent t :: W, ab, ab', h, d => Done.mono (W := W) hs (fun u hu => by
      rcases List.mem_cons.mp hu with rfl | hu
      · exact .inl (.head _)
      · exact (h u hu).imp (.tail _) id) (show Done g s (t :: ab) W from d)
  | .ext k :: W, ab, ab', h, d => ⟨fun t ht => by
      rcases d.1 t ht with q | q
      · exact .inl (hs t q)
      · exact (h t q).symm, Done.mono (W := W) hs (fun u hu => .inl hu) d.2⟩
theorem Done.ents {g : Gr} {s : Int → Int} {W : List Wk} : ∀ {l : List Tgt} {ab : List Tgt}, Done g s (l.reverse ++ ab) W → Done g s ab (l.map .ent ++ W)
  | [], ab, h => by simpa using h
  | t :: l, ab, h => Done.ents (l := l) (ab := t :: ab) (by simpa using h)
structure DI (g : Gr) (t₀ : Tgt) (s : Int → Int) (W : List Wk) (path : List Nat) : Prop where
  sp : SP g t₀ W path
  nodup : path.Nodup
  gray : ∀ k, k < g.T → (s (g.nd k).2 = 1 ↔ k ∈ path)
  lt : ∀ k ∈ path, k < g.T
  black : ∀ k, k < g.T → s (g.nd k).2 = 2 → Acy g k
  done : Done g s [] W
  root : okB g s t₀ ∨ .ent t₀ ∈ W ∨ ∃ k, t₀ = .node k ∧ .ext k ∈ W
noncomputable def AcT (g : Gr) : Tgt → Prop
  | .node k => Acy g k
  | _ => True
theorem DI.fin {g : Gr} {t₀ : Tgt} {s : Int → Int} {path : List Nat} (h : DI g t₀ s [] path) (hT : ∀ k, t₀ = .node k → k < g.T) : AcT g t₀ := by
  rcases h.root with q | q | ⟨k, _, q⟩
  · cases t₀ with
    | node k => exact h.black k (hT k rfl) q
    | _ => exact trivial
  · cases q
  · cases q
theorem DI.drop {g : Gr} {t₀ t : Tgt} {s : Int → Int} {W : List Wk} {path : List Nat} (h : DI g t₀ s (.ent t :: W) path) (ht : okB g s t) : DI g t₀ s W path := by
  obtain ⟨h1, h2, h3, h4, h5, h6, h7⟩ := h
  refine ⟨by cases h1 <;> assumption, h2, h3, h4, h5, Done.mono (fun _ x => x) (fun u hu => by rw [List.mem_singleton.mp hu]; exact .inr ht) (show Done g s [t] W from h6), ?_⟩
  rcases h7 with q | q | ⟨k, e, q⟩
  · exact .inl q
  · rcases List.mem_cons.mp q with e | q
    · cases e; exact .inl ht
    · exact .inr (.inl q)
  · rcases List.mem_cons.mp q with e' | q
    · cases e'
    · exact .inr (.inr ⟨k, e, q⟩)
theorem DI.circle {g : Gr} {t₀ : Tgt} {k : Nat} {s : Int → Int} {W : List Wk} {path : List Nat} (h : DI g t₀ s (.ent (.node k) :: W) path) (hk : k < g.T) (hs : s (g.nd k).2 = 1) : ¬ AcT g t₀ := by
  have hp := (h.gray k hk).mp hs
  have hc := h.sp.chain
  intro ha
  cases path with
  | nil => cases hp
  | cons p path =>
    have e : Tgt.node k ∈ g.ch p := by cases h.sp with | ent _ e => exact e
    have pl : Plus g k k := by
      rcases hc.1 p path rfl k hp with rfl | x
      · exact .one e
      · exact .step x e
    refine xE1A1 (hc.2 k hp) fun r e1 e2 => ?_
    subst e1
    have hr : Acy g r := ha
    rcases e2 with rfl | e2
    · exact hr.noLoop pl
    · exact (hr.down e2).noLoop pl
theorem DI.enter {g : Gr} {t₀ : Tgt} {k : Nat} {s : Int → Int} {W : List Wk} {path : List Nat} (h : DI g t₀ s (.ent (.node k) :: W) path) (hk : k < g.T) (hs : s (g.nd k).2 = 0) (inj : ∀ j k, j < g.T → k < g.T → (g.nd j).2 = (g.nd k).2 → j = k) {l : List Tgt} (hl : ∀ t, t ∈ l ↔ t ∈ g.ch k) :
    DI g t₀ (fun i => if i = (g.nd k).2 then 1 else s i) (l.map .ent ++ .ext k :: W) (k :: path) := by
  obtain ⟨h1, h2, h3, h4, h5, h6, h7⟩ := h
  have hkp : k ∉ path := fun q => by have := (h3 k hk).mpr q; rw [hs] at this; cases this
  have eqs : ∀ j, j < g.T → j ≠ k → (if (g.nd j).2 = (g.nd k).2 then (1 : Int) else s (g.nd j).2) = s (g.nd j).2 := fun j hj hne => if_neg fun q => hne (inj j k hj hk q)
  have spx : SP g t₀ (.ext k :: W) (k :: path) := by
    cases h1 with
    | ent0 h => exact .ext0 h rfl
    | ent h e => exact .ext h e
  have sps : ∀ l : List Tgt, (∀ t ∈ l, t ∈ g.ch k) → SP g t₀ (l.map .ent ++ .ext k :: W) (k :: path) := by
    intro l
    induction l with
    | nil => intro _; exact spx
    | cons t l ih => intro hl; exact .ent (ih fun u hu => hl u (.tail _ hu)) (hl t (.head _))
  have okm : ∀ t, okB g s t → okB g (fun i => if i = (g.nd k).2 then 1 else s i) t := fun t ht => by
    cases t with
    | node j =>
      have e : s (g.nd j).2 = 2 := ht
      show (if (g.nd j).2 = (g.nd k).2 then (1 : Int) else s (g.nd j).2) = 2
      rw [if_neg (fun q => by rw [q, hs] at e; cases e)]; exact e
    | _ => exact trivial
  refine ⟨sps _ fun t ht => (hl t).mp ht, List.nodup_cons.mpr ⟨hkp, h2⟩, fun j hj => ?_, fun j hj => ?_, fun j hj hb => ?_, ?_, ?_⟩
  · by_cases q : j = k
    · subst q; simp
    · show (if (g.nd j).2 = (g.nd k).2 then (1 : Int) else s (g.nd j).2) = 1 ↔ _
      rw [eqs j hj q, h3 j hj]; simp [q]
  · rcases List.mem_cons.mp hj with rfl | hj
    · exact hk
    · exact h4 j hj
  · by_cases q : j = k
    · subst q; simp at hb
    · have hb' : (if (g.nd j).2 = (g.nd k).2 then (1 : Int) else s (g.nd j).2) = 2 := hb
      rw [eqs j hj q] at hb'; exact h5 j hj hb'
  · refine Done.ents ⟨fun t ht => .inr (by simpa using (hl t).mpr ht), ?_⟩
    exact Done.mono okm (fun u hu => .inl hu) (show Done g s [.node k] W from h6)
  · rcases h7 with q | q | ⟨j, e, q⟩
    · exact .inl (okm _ q)
    · rcases List.mem_cons.mp q with e | q
      · cases e; exact .inr (.inr ⟨k, rfl, by simp⟩)
      · exact .inr (.inl (by simp [q]))
    · rcases List.mem_cons.mp q with e' | q
      · cases e'
      · exact .inr (.inr ⟨j, e, by simp [q]⟩)
theorem DI.leave {g : Gr} {t₀ : Tgt} {k : Nat} {s : Int → Int} {W : List Wk} {path : List Nat} (h : DI g t₀ s (.ext k :: W) path) (hT : ∀ k, k < g.T → ∀ j, .node j ∈ g.ch k → j < g.T) (inj : ∀ j k, j < g.T → k < g.T → (g.nd j).2 = (g.nd k).2 → j = k) :
    k < g.T ∧ s (g.nd k).2 = 1 ∧ ∃ path', DI g t₀ (fun i => if i = (g.nd k).2 then 2 else s i) W path' := by
  obtain ⟨h1, h2, h3, h4, h5, h6, h7⟩ := h
  obtain ⟨path', rfl, hsp⟩ : ∃ path', path = k :: path' ∧ SP g t₀ W path' := by
    cases h1 with
    | ext0 h _ => exact ⟨_, rfl, h⟩
    | ext h _ => exact ⟨_, rfl, h⟩
  have hk := h4 k (.head _)
  have hs1 := (h3 k hk).mpr (.head _)
  have hkp := (List.nodup_cons.mp h2).1
  have acy : Acy g k := .mk fun j hj => by
    rcases h6.1 _ hj with q | q
    · exact h5 j (hT k hk j hj) q
    · cases q
  have eqs : ∀ j, j < g.T → j ≠ k → (if (g.nd j).2 = (g.nd k).2 then (2 : Int) else s (g.nd j).2) = s (g.nd j).2 := fun j hj hne => if_neg fun q => hne (inj j k hj hk q)
  have okm : ∀ t, okB g s t → okB g (fun i => if i = (g.nd k).2 then 2 else s i) t := fun t ht => by
    cases t with
    | node j =>
      have e : s (g.nd j).2 = 2 := ht
      show (if (g.nd j).2 = (g.nd k).2 then (2 : Int) else s (g.nd j).2) = 2
      split <;> first | rfl | exact e
    | _ => exact trivial
  have okk : okB g (fun i => if i = (g.nd k).2 then 2 else s i) (.node k) := by simp [okB]
  refine ⟨hk, hs1, path', hsp, (List.nodup_cons.mp h2).2, fun j hj => ?_, fun j hj => h4 j (.tail _ hj), fun j hj hb => ?_, ?_, ?_⟩
  · by_cases q : j = k
    · subst q
      show (if (g.nd j).2 = (g.nd j).2 then (2 : Int) else s (g.nd j).2) = 1 ↔ _
      simp [hkp]
    · show (if (g.nd j).2 = (g.nd k).2 then (2 : Int) else s (g.nd j).2) = 1 ↔ _
      rw [eqs j hj q, h3 j hj]; simp [q]
  · by_cases q : j = k
    · subst q; exact acy
    · have hb' : (if (g.nd j).2 = (g.nd k).2 then (2 : Int) else s (g.nd j).2) = 2 := hb
      rw [eqs j hj q] at hb'; exact h5 j hj hb'
  · exact Done.mono okm (fun u hu => by rw [List.mem_singleton.mp hu]; exact .inr okk) h6.2
  · rcases h7 with q | q | ⟨j, e, q⟩
    · exact .inl (okm _ q)
    · rcases List.mem_cons.mp q with e | q
      · cases e
      · exact .inr (.inl q)
    · rcases List.mem_cons.mp q with e' | q
      · cases e'; subst e; exact .inl okk
      · exact .inr (.inr ⟨j, e, q⟩)
noncomputable def white (g : Gr) (s : Int → Int) : Nat := ((List.range g.T).filter fun k => s (g.nd k).2 == 0).length
theorem white_enter {g : Gr} {s : Int → Int} {k : Nat} (hk : k < g.T) (hs : s (g.nd k).2 = 0) : white g (fun i => if i = (g.nd k).2 then 1 else s i) < white g s := by
  unfold white
  refine filter_lt _ _ _ (fun x _ hx => ?_) (List.mem_range.mpr hk) (by simp [hs]) (by simp)
  dsimp only at hx
  split at hx
  · simp at hx
  · exact hx
end Mine
end
section
set_option Elab.async false
set_option linter.unusedVariables false
namespace Mine
open PySem PySem.W

/-! ### numbers given to names -/
noncomputable def posOf {α : Type} [DecidableEq α] : List α → α → Option Nat
  | [], _ => none
  | x :: r, y => if x = y then some 0 else (posOf r y).map (· + 1)
theorem posOf_app {α : Type} [DecidableEq α] (t j : α) : ∀ l : List α, posOf (l ++ [t]) j = (posOf l j).or (if j = t then some l.length else none)
  | [] => by simp [posOf, eq_comm]
  | x :: r => by
    simp only [List.cons_append, posOf]
    by_cases q : x = j
    · simp [q]
    · rw [if_neg q, if_neg q, posOf_app t j r]
      cases posOf r j with
      | some i => rfl
      | none => by_cases q' : j = t <;> simp [q']
theorem posOf_get {α : Type} [DecidableEq α] {j : α} : ∀ {l : List α} {i : Nat}, posOf l j = some i → l[i]? = some j
  | [], _, h => nomatch h
  | x :: r, i, h => by
    unfold posOf at h
    split at h
    · rename_i e; cases h; simp [e]
    · refine xE1A1 (Option.map_eq_some_iff.mp h) fun k hk hr1_ => ?_
      obtain rfl := hr1_
      simpa using posOf_get hk
theorem posOf_none {α : Type} [DecidableEq α] {j : α} : ∀ {l : List α}, posOf l j = none → j ∉ l
  | [], _ => by simp
  | x :: r, h => by
    unfold posOf at h
    split at h
    · cases h
    · rename_i e
      have := posOf_none (Option.map_eq_none_iff.mp h)
      simp [Ne.symm e, this]
noncomputable def amF (ts : List Str) : Str → Option V := fun t => (posOf ts t).map fun i => .int (i : Nat)
noncomputable def fmF (fs : List Cell) : List Int → Option V
  | [a, n] => (posOf fs (a, n)).map fun i => .int (i : Nat)
  | _ => none
theorem amF_new {ts : List Str} {t : Str} (h : amF ts t = none) : (fun j => if j = t then some (V.int (ts.length : Nat)) else amF ts j) = amF (ts ++ [t]) := by
  funext j
  unfold amF at h ⊢
  rw [posOf_app]
  by_cases q : j = t
  · subst q
    rw [Option.map_eq_none_iff.mp h]; simp
  · simp only [q, if_false, Option.or_none]
theorem fmF_new {fs : List Cell} {c : Cell} (h : fmF fs [c.1, c.2] = none) : (fun j => if j = [c.1, c.2] then some (V.int (fs.length : Nat)) else fmF fs j) = fmF (fs ++ [c]) := by
  funext j
  by_cases q : j = [c.1, c.2]
  · subst q
    have h' : posOf fs (c.1, c.2) = none := Option.map_eq_none_iff.mp h
    simp only [if_true, fmF, posOf_app]
    have e : (c.1, c.2) = c := rfl
    rw [h']; simp [e]
  · simp only [q, if_false]
    match j, q with
    | [], _ => rfl
    | [_], _ => rfl
    | [a, n], q =>
      have : (a, n) ≠ c := fun e => q (by rw [← e])
      simp only [fmF, posOf_app, this, if_false, Option.or_none]
    | _ :: _ :: _ :: _, _ => rfl
end Mine
end
section
set_option Elab.async false
set_option maxRecDepth 100000
set_option linter.unusedVariables false
namespace Mine
open PySem PySem.W PyProof PySem.SeqAt
open PyProof.Rows (subscriptTail)

/-! ### exceptions of an own class: made, their fields -/
noncomputable def excRoot : List Value := [.type "Exception", .type "BaseException", .type "object"]
noncomputable def excMro : List Value → Bool
  | .ref _ :: r => excMro r
  | .type n :: r => (Value.type n :: r) == excRoot
  | _ => false
theorem excMro_pass (self : Value) : ∀ {l : List Value}, excMro l = true → refuseLoop self "__setattr__" l = pure ()
  | .ref c :: r, e => by rw [refuseLoop_ref]; exact excMro_pass self (l := r) e
  | .type n :: r, e => by
    have : Value.type n :: r = excRoot := beq_iff_eq.mp e
    rw [this]; exact PySem.F.store_Exception.passes self
theorem excMro_has {X : String} (hX : excRoot.contains (.type X) = true) : ∀ {l : List Value}, excMro l = true → l.contains (.type X) = true
  | .ref c :: r, e => by rw [List.contains_cons, excMro_has hX (l := r) e, Bool.or_true]
  | .type n :: r, e => by
    have : Value.type n :: r = excRoot := beq_iff_eq.mp e
    rw [this]; exact hX
noncomputable def excCls (K : Frag) (Cl : Addr) : Bool := (clsIn K Cl).any fun cd => excMro cd.mro
noncomputable def stoE (K : Frag) (Cl : Addr) (name : Str) : Bool := (findIn K (.ref Cl) "__setattr__" == some (some (.builtin "object.__setattr__"))) && excCls K Cl && (takerIn K Cl name == some none) && hasDictIn K Cl

theorem osaE {prog : Program} {w : World} {A : Around} {K : Frag} {Cl x : Addr} {s : Shared} {R : Result → Shared → Prop} {ox : Obj} {od : Option Obj} {name : Str} {tk : Tok} {v : Value} {r : Option Value} (X : K.In s.heap) (I : InstAt s.heap x ox Cl od) (hp : excCls K Cl = true) (ht : takerIn K Cl name = some r)
    (h : ∀ b, wpAny (model prog w) A.in1 (match r with | some a => Builtin.ObjectAttr.setByDescriptor a (.ref x) v | none => Builtin.ObjectAttr.storeInOwnDict (.ref x) (.ref Cl) (.str name tk) name v b)
      (fun fin s' => match fin with | .done f => R (.ok f) s' | .again c' => c'.quiet = true ∧ codeAny (model prog w) A c' R s') (fun e s' => R (.error e) s') s) :
    codeAny (model prog w) A (.call (.builtin "object.__setattr__") ⟨[.ref x, .str name tk, v], []⟩) R s := by
  have SF := PySem.F.store_object
  refine xE1A1 (any_some hp) fun cd hc ho => ?_
  have ne : cd.mro.isEmpty = false := by cases q : cd.mro with
    | nil => rw [q] at ho; cases ho
    | cons _ _ => rfl
  have sub : Looks (model prog w) s.heap (isInstance (.ref x) (.type "object")) true := I.type.andThen (looks_mroIn X (by unfold mroIn; rw [hc, Option.bind_some, if_neg (by rw [ne]; decide), excMro_has (by decide +kernel) ho]))
  refine codeAny_call_builtin SF.slot.plain SF.entry (@check_slot (model prog w) _ _ s "object.__setattr__" "object" "__setattr__" (.ref x) [.str name tk, v] [] _ SF.kind SF.split sub (SF.args (.ref x) (.str name tk) v) ?_)
  refine xE1A1 (Option.bind_eq_some_iff.mp ht) fun attr ha hr => ?_
  have hm : Looks (model prog w) s.heap (mroOf (.ref Cl)) cd.mro := (looks_clsIn X hc).andThen .now
  have L3 : Looks (model prog w) s.heap (Builtin.ObjectAttr.storeTaker? attr) r := by
    cases attr with
    | none => cases hr; exact .now
    | some a =>
      refine xE1A1 (Option.map_eq_some_iff.mp hr) fun b hb hr1_ => ?_
      obtain rfl := hr1_
      refine (looks_takesIn X hb).andThen ?_
      cases b <;> exact .now
  rw [osa_eq, refuse_eq]
  refine wpAny_bind (wpAny_bind (I.type.here (wpAny_bind (hm.here ?_))))
  rw [excMro_pass _ ho]
  refine wpAny_pure (wpAny_bind (I.type.here (wpAny_bind ((looks_findIn X ha).here (wpAny_bind (L3.here ?_))))))
  exact h _

section
variable {C : Cx} {R : Rm} {env : Env} {loc : Loc} {σ : Sg}

theorem At.exc {h : Heap} {a Cl t : Addr} {d : Option Addr} (x : At C h σ) (e : σ a = some (.exc Cl t d)) : h.get? a = some (excObj Cl t d) := x.objs a _ e

theorem wp_setAttrE {A : Around} {s : Shared} {a Cl t : Addr} {name : Str} {v : Value} {x : V} {Q : Unit → Shared → Prop} {E : Value → Shared → Prop} (at_ : At C s.heap σ) (e1 : σ a = some (.exc Cl t none))
    (hok : stoE C.K Cl name = true) (hv : Rep s.heap v x)
    (h : ∀ d s', σ d = none → At C s'.heap (upd (upd σ a (.exc Cl t (some d))) d (.ns (setF (fun _ => none) name x) 1)) → Stp Nil s σ s' (upd (upd σ a (.exc Cl t (some d))) d (.ns (setF (fun _ => none) name x) 1)) → Q () s') : wpAny (model C.prog C.w) A (setAttr (.ref a) name v) Q E s := by
  have ha := at_.exc e1
  have X := C.kin.keeps at_.keep
  have I : InstAt s.heap a (excObj Cl t none) Cl none := ⟨ha, rfl, rfl, trivial⟩
  unfold stoE at hok
  simp only [Bool.and_eq_true, beq_iff_eq] at hok
  refine Classical.byContradiction fun hG => ?_
  refine xE0A1 hok fun hr2_ o4 => ?_
  try clear hok
  refine xE0A1 hr2_ fun hr1_ o3 => ?_
  try clear hr2_
  obtain ⟨o1, o2⟩ := hr1_
  refine hG ?_
  clear hG
  refine set_plain X I o1 (osaE (s := { s with toks := s.toks + 1 }) X I o2 o3 fun b => ?_)
  refine xE1A1 (any_some o4) fun cd hc hd' => ?_
  refine wpAny_bind (wpAny_pure (wpAny_bind (wpAny_bind (wpAny_loadPart (s := { s with toks := s.toks + 1 }) ha (wpAny_bind ((looks_clsIn (M := model C.prog C.w) X hc) _ _ _ { s with toks := s.toks + 1 } (fun _ _ e => e) ?_))))))
  rw [hd']
  have hda : s.heap.objs.size ≠ a := fun q => absurd (q ▸ at_.lt e1) (Nat.lt_irrefl _)
  have h1 : (s.heap.push emptyDict).get? a = some (excObj Cl t none) := Heap.get?_push_of_some _ ha
  refine wpAny_bind (wpAny_alloc' ?_)
  refine wpAny_bind (wpAny_update' h1 ?_)
  refine wpAny_pure ?_
  have hfr : ({ cls := (excObj Cl t none).cls, dict := some s.heap.objs.size, data := (excObj Cl t none).data, slots := (excObj Cl t none).slots } : Obj).isFreed = false := rfl
  have hA := Heap.get?_update_self (fun o : Obj => { o with dict := some s.heap.objs.size }) h1 hfr
  have hD : ((s.heap.push emptyDict).update a fun o => { o with dict := some s.heap.objs.size }).get? s.heap.objs.size = some emptyDict :=
    (Heap.get?_update_ne _ _ _ _ hda).trans (Heap.get?_push_size _ rfl)
  generalize hH : ((s.heap.push emptyDict).update a fun o => { o with dict := some s.heap.objs.size }) = H at hA hD
  generalize hDD : s.heap.objs.size = D at *
  show wpAny _ _ (Builtin.ObjectAttr.storeInDict D (.str name _) name v) _ _ _
  unfold Builtin.ObjectAttr.storeInDict Builtin.ObjectAttr.newKeyGuard
  refine wpAny_bind (wpAny_pure (wpAny_bind ?_))
  unfold nsSet
  refine wpAny_bind (wpAny_bind (wpAny_askSetting (wpAny_pure (wpAny_bind (wpAny_mkText (wpAny_bind (wpAny_loadPart (s := { s with heap := H, toks := s.toks + 1 + 1 }) hD ?_)))))))
  dsimp only
  have hcc : (!(#[] : Array DictEntry).any (·.key.isStr name) && (#[] : Array DictEntry).any (·.refKey)) = false := by simp
  rw [aRefKeyMayBeTheName_at, hcc]
  simp only [Bool.false_eq_true, if_false]
  refine wpAny_updatePart (s := { s with heap := H, toks := s.toks + 1 + 1 }) hD ?_
  have hnew : (H.update D (Obj.putName name (PyData.keyHash C.w.params name) (.str name (s.toks + 1)) v)).get? D = some (dictOf (putL name (PyData.keyHash C.w.params name) (.str name (s.toks + 1)) v []) (putN name [] 0)) := by
    have hD' : H.get? D = some (dictOf [] 0) := hD
    rw [Heap.get?_update_self _ hD' (by rw [putName_dict]; rfl), putName_dict]
  have hlen := putL_len name (PyData.keyHash C.w.params name) (.str name (s.toks + 1)) v []
  refine wpAny_bind (wpAny_lookBehind (s := { s with heap := H.update D (Obj.putName name (PyData.keyHash C.w.params name) (.str name (s.toks + 1)) v), toks := s.toks + 1 + 1 }) hnew (pastItsLine_dict (by rw [List.size_toArray, sizeLine_eq]; simp at hlen; (first | lia | omega))) ?_)
  refine wpAny_pure ?_
  have hσD : σ D = none := by rw [← hDD]; exact at_.fresh
  have a1 : At C (s.heap.push emptyDict) (upd σ D (.ns (fun _ => none) 0)) := by
    rw [← hDD]
    exact at_.pushA emptyDict _ ⟨[], 0, Heap.get?_push_size _ rfl, (fun e he => absurd he List.not_mem_nil), Nat.le_refl _, fun x => trivial⟩
  have st1 : Stp Nil s σ { s with heap := s.heap.push emptyDict } (upd σ D (.ns (fun _ => none) 0)) := by
    rw [← hDD]; exact Stp.pushA Nil s σ emptyDict (.ns (fun _ => none) 0) s.toks
  have ea : (upd σ D (.ns (fun _ => none) 0)) a = some (.exc Cl t none) := by rw [upd_ne _ _ (Ne.symm hda)]; exact e1
  have hs1 : Heap.SameBut a (s.heap.push emptyDict) H := by rw [← hH]; exact Heap.SameBut.update ..
  have a2 := a1.set (ao' := .exc Cl t (some D)) ea hs1 hA
  have st2 := st1.trans (Stp.set Nil { s with heap := s.heap.push emptyDict } s.toks ea a2 hs1)
  have eD : (upd (upd σ D (.ns (fun _ => none) 0)) a (.exc Cl t (some D))) D = some (.ns (fun _ => none) 0) := by rw [upd_ne _ _ hda, upd_same]
  have hs2 : Heap.SameBut D H (H.update D (Obj.putName name (PyData.keyHash C.w.params name) (.str name (s.toks + 1)) v)) := Heap.SameBut.update ..
  have hv1 : Rep H v x := (st2.rep at_ hv)
  have hkp : Keeps (fun b => b = D) H (H.update D (Obj.putName name (PyData.keyHash C.w.params name) (.str name (s.toks + 1)) v)) := fun b o eb n => (hs2.2 b n).trans eb
  have nt : NoTup (fun b => b = D) H := fun b n o eo => by subst n; exact (a2.objs _ _ eD).noTup o eo
  have ro : RepO C (H.update D (Obj.putName name (PyData.keyHash C.w.params name) (.str name (s.toks + 1)) v)) D (.ns (setF (fun _ => none) name x) 1) := by
    refine ⟨_, _, hnew, putL_keys _ _ _ _ _ (fun e he => absurd he List.not_mem_nil), by simpa using hlen, fun y => ?_⟩
    rw [find_putL _ _ _ _ _ _ (fun e he => absurd he List.not_mem_nil)]
    unfold setF
    by_cases q : y = name
    · rw [if_pos q, if_pos q]; exact hv1.keep hkp nt
    · rw [if_neg q, if_neg q]; exact trivial
  have a3 := a2.set eD hs2 ro
  have st3 := st2.trans (Stp.set Nil { s with heap := H, toks := s.toks } (s.toks + 1 + 1) eD a3 hs2)
  have eσ : upd (upd (upd σ D (.ns (fun _ => none) 0)) a (.exc Cl t (some D))) D (.ns (setF (fun _ => none) name x) 1) = upd (upd σ a (.exc Cl t (some D))) D (.ns (setF (fun _ => none) name x) 1) := by
    funext b
    by_cases q : b = D
    · subst q; rw [upd_same, upd_same]
    · rw [upd_ne _ _ q, upd_ne _ _ q]
      by_cases q' : b = a
      · subst q'; rw [upd_same, upd_same]
      · rw [upd_ne _ _ q', upd_ne _ _ q', upd_ne _ _ q]
  rw [eσ] at a3 st3
  exact h D { s with heap := _, toks := s.toks + 1 + 1 } hσD a3 st3
end

/-- the class lets the field be read from the exception's own dict -/
noncomputable def getE (K : Frag) (Cl : Addr) (name : Str) : Bool := (findIn K (.ref Cl) "__getattribute__" == some (some (.builtin "BaseException.__getattribute__"))) && (findIn K (.ref Cl) "__getattr__" == some none) && (mroIn K Cl (.type "BaseException") == some true)
theorem wp_getAttrE {prog : Program} {w : World} {A : Around} {K : Frag} {Cl x : Addr} {s : Shared} {ox : Obj} {od : Option Obj} {name : Str} {v : Value} {expr : Bool} {Q : Value → Shared → Prop} {E : Value → Shared → Prop} (X : K.In s.heap) (I : InstAt s.heap x ox Cl od) (hok : getE K Cl name = true)
    (hf : findObj K Cl od name = some (.value v)) (hh : handedIn v = true) (h : Q v { s with toks := s.toks + 1 }) : wpAny (model prog w) A (getAttr (.ref x) name expr) Q E s := by
  unfold getE at hok
  simp only [Bool.and_eq_true, beq_iff_eq] at hok
  refine xE0A1 hok fun hr3_ o3 => ?_
  try clear hok
  refine xE0A1 hr3_ fun o1 o2 => ?_
  try clear hr3_
  have L0 := I.type (M := model prog w)
  have L1 := looks_findIn (M := model prog w) X o1
  have L2 := looks_findIn (M := model prog w) X o2
  have L3 := looks_find (M := model prog w) X I hf
  have L4 := looks_mroIn (M := model prog w) X o3
  have hx2 : (Value.builtin "BaseException.__getattribute__" == Value.builtin "object.__getattribute__") = false := by decide +kernel
  have hx1 : (onTheHeap (Value.ref Cl) && Value.builtin "BaseException.__getattribute__" == Value.builtin "object.__getattribute__") = false := by rw [hx2]; rfl
  have hx0 : (expr && onTheHeap (Value.builtin "BaseException.__getattribute__")) = false := by cases expr <;> rfl
  have f3 := PySem.F.attr_Exception.ga.bind (.ref x)
  unfold getAttr getAttrBy
  refine wpAny_bind (wpAny_mkText (wpAny_holding (wpAny_bind (L0 _ _ _ _ (fun _ _ e => e) (wpAny_bind (L1 _ _ _ _ (fun _ _ e => e) ?_))))))
  show wpAny _ _ (if (onTheHeap (Value.ref Cl) && Value.builtin "BaseException.__getattribute__" == Value.builtin "object.__getattribute__") = true then _ else _) _ _ _
  rw [hx1]
  simp only [Bool.false_eq_true, if_false]
  unfold getAttrByItsOwn hookBefore
  refine wpAny_bind (L2 _ _ _ _ (fun _ _ e => e) ?_)
  refine wpAny_bind (wpAny_attempt (wpAny_holding ?_))
  unfold callGetattribute
  rw [hx0]
  simp only [Bool.false_eq_true, if_false]
  unfold boundAndCalled
  rw [f3]
  refine wpAny_bind (wpAny_pure ?_)
  have sub : Looks (model prog w) s.heap (isInstance (.ref x) (.type "BaseException")) true := L0.andThen L4
  refine wpAny_call (codeAny_call_builtin PySem.F.attr_Exception.ga.plain PySem.F.entry_bexc_ga (@check_slot (model prog w) _ _ _ "BaseException.__getattribute__" "BaseException" "__getattribute__" (.ref x) [.str name s.toks] [] _ (by decide +kernel) (by decide +kernel) sub (PySem.F.args_bexc_ga (.ref x) (.str name s.toks)) ?_))
  refine wpAny_bind (wpAny_pure (wpAny_bind (wpAny_pure (wpAny_bind (L0 _ _ _ _ (fun _ _ e => e) (wpAny_bind (L3 _ _ _ _ (fun _ _ e => e) ?_)))))))
  refine wpAny_pure ?_
  show wpAny _ _ (handedOut v) _ _ _
  rw [handedOut_of hh]; exact wpAny_pure h

theorem ns_some_of {K : Frag} {h : Heap} {N : Addr} {mg : Str → Option Value} {n : Str} {v : Value} (X : K.In h) (G : h.Ns N mg) (e : nsIn K N n = some (some v)) : mg n = some v := by
  refine xE3A3 G fun o es ep ho hd _ hf => ?_
  try clear G
  unfold nsIn at e
  split at e
  · rename_i c d es' n' sl q
    have := X _ _ q
    rw [ho] at this
    cases this
    cases hd
    split at e
    · rename_i en he
      cases e
      rw [← hf]
      unfold nsFind findBy
      rw [← Array.find?_toList, he]
      rfl
    · split at e <;> cases e
  · cases e

section
variable {prog : Program} {w : World} {A : Around} {E : Value → Shared → Prop} {h : Heap} {g : Array GenState} {d : Drawn} {t : Nat} {os : OsState}
variable {nm q : Str} {Cl N : Addr} {bs bm bmB : List Value} {hdct : Bool} {sn : List Str} {sub : List Value} {ab : Bool} {col : Option Bool} {dd : Option Addr} {k0 k1 k2 k3 k5 : Option Value} {B newId initId : String}

/-- an exception class that inherits through own classes and has an __init__ of its own -/
theorem wp_typeCallE (F : ExcBaseFacts B newId initId bmB) (T : OwnTail h bmB bm) {mN : Str → Option Value} {rest : List Value} {fI : Addr} {oI : Obj} {Q : Fin → Shared → Prop}
    (hC : h.get? Cl = some (excClassObj nm q Cl N bs bm hdct sn sub ab col dd k0 k1 k2 k3 k5 newId)) (hn : h.Ns N mN) (hi : mN "__init__" = some (.ref fI))
    (hfI : h.get? fI = some oI) (hfc : oI.cls = .type "function")
    (hq : ∀ h' e, Heap.MadeExcOf h h' e (.ref Cl) rest →
      wpAny (model prog w) A (call (.ref fI) (.ref e :: rest)) (fun r s' => r = .none ∧ Q (.done (.ret (.ref e))) s') E ⟨h', g, d, t, os⟩) (hrest : rest.length ≤ sizeLine) :
    wpAny (model prog w) A (Builtin.«type.__call__» ⟨.ref Cl :: rest, []⟩) Q E ⟨h, g, d, t, os⟩ := by
  repeat (first | with_reducible refine wpAny_loadPart_at hC ?_ | with_reducible refine wpAny_madeBy_exc hC ?_ | wp_step)
  refine codeAny_call_builtin_code (Code.quiet_builtin _ F.quiet) (wpAny_check_new_subT F T hC ?_)
  refine codeAny_exc_new_subT F T hC ?_ hrest
  show wpAny _ _ _ _ _ _
  have K1 : ∀ b o, h.get? b = some o → ((h.push { cls := .type "tuple", data := .seq rest.toArray }).push { cls := .ref Cl, data := .fields #[.ref h.objs.size, .none, .none, .none, .bool false, .none] }).get? b = some o :=
    fun b o e => Heap.get?_push_of_some _ (Heap.get?_push_of_some _ e)
  have hC₁ := K1 _ _ hC
  have hfI₁ := K1 _ _ hfI
  have hn₁ := hn.keeps K1
  have T₁ := T.keeps K1
  have hget : ((h.push { cls := .type "tuple", data := .seq rest.toArray }).push
      { cls := .ref Cl, data := .fields #[.ref h.objs.size, .none, .none, .none, .bool false, .none] }).get? (h.objs.size + 1) = some
      { cls := .ref Cl, data := .fields #[.ref h.objs.size, .none, .none, .none, .bool false, .none] } := by heap_get
  have hcC : (Value.ref Cl :: bm).contains (.ref Cl) = true := by simp
  unfold isInstance
  repeat (first | with_reducible refine wpAny_loadPart_at hget ?_ | (with_reducible refine wpAny_isSubtype_exc hC₁ ?_; rw [hcC]) | wp_step)
  show wpAny _ _ (typeLookup (.ref Cl) _) _ _ _
  refine wpAny_typeLookup_tail hC₁ hn₁ T₁ F.mroIs F.init.lookup ?_
  rw [hi]
  refine wpAny_holding (wpAny_bind ?_)
  unfold bindSpecial
  refine wpAny_bind (wpAny_typeOf (T := "function") ⟨_, hfI₁, hfc⟩ ?_)
  rw [if_pos (by decide)]
  refine wpAny_pure (wpAny_bind (wpAny_mono (hq _ (h.objs.size + 1) ⟨K1, Heap.get?_none_of_le (Nat.le_succ _), h.objs.size, hget, Heap.get?_none_of_le (Nat.le_refl _), ?_⟩) (fun r s' hr => ?_) fun _ _ x => x))
  · exact Heap.get?_push_of_some _ (Heap.get?_push_at rfl rfl)
  · refine xE0A1 hr fun hr4_ hQ => ?_
    try clear hr
    obtain rfl := hr4_
    wp_walk
    exact hQ

theorem code_callE (F : ExcBaseFacts B newId initId bmB) (T : OwnTail h bmB bm) {mN : Str → Option Value} {rest : List Value} {fI : Addr} {oI : Obj} {Q : Value → Shared → Prop}
    (hC : h.get? Cl = some (excClassObj nm q Cl N bs bm hdct sn sub ab col dd k0 k1 k2 k3 k5 newId)) (hn : h.Ns N mN) (hi : mN "__init__" = some (.ref fI))
    (hfI : h.get? fI = some oI) (hfc : oI.cls = .type "function")
    (hq : ∀ h' e, Heap.MadeExcOf h h' e (.ref Cl) rest →
      wpAny (model prog w) (A.under (.builtin "type.__call__" ⟨.ref Cl :: rest, []⟩)) (call (.ref fI) (.ref e :: rest)) (fun r s' => r = .none ∧ Q (.ref e) s') E ⟨h', g, d, t, os⟩) (hrest : rest.length ≤ sizeLine) :
    codeAny (model prog w) A (.call (.ref Cl) ⟨rest, []⟩) (wants Q E) ⟨h, g, d, t, os⟩ := by
  have f1 := tc_lookup
  have f2 := tc_bind (.ref Cl)
  have hT : (⟨h, g, d, t, os⟩ : Shared).TypeIs (.ref Cl) "type" := ⟨_, hC, rfl⟩
  refine codeAny_of_tree ?_
  show wpAny _ _ (callAny (.ref Cl) _) _ _ _
  repeat (any_goals (first | assumption | with_reducible refine wpAny_loadPart_at hC ?_ | wp_step))
  refine ⟨rfl, ?_⟩
  refine codeAny_call_builtin_at (Code.quiet_builtin _ (by decide +kernel)) entry_typeCall (wpAny_check_type_call_sub hC (wp_typeCallE F T hC hn hi hfI hfc (fun h' e hm => ?_) hrest))
  exact hq h' e hm
end

set_option genInjectivity false in
set_option genSizeOf false in
/-- what an exception class of the text bears -/
structure EC where
  nm : Str
  q : Str
  N : Addr
  bs : List Value
  bm : List Value
  hdct : Bool
  sn : List Str
  sub : List Value
  ab : Bool
  col : Option Bool
  dd : Option Addr
  k0 : Option Value
  k1 : Option Value
  k2 : Option Value
  k3 : Option Value
  k5 : Option Value
noncomputable abbrev EC.obj (c : EC) (Cl : Addr) : Obj := excClassObj c.nm c.q Cl c.N c.bs c.bm c.hdct c.sn c.sub c.ab c.col c.dd c.k0 c.k1 c.k2 c.k3 c.k5 "Exception.__new__"
/-- an exception class of the text, with its own __init__ -/
noncomputable def newE (K : Frag) (Cl f : Addr) : Prop := ∃ (c : EC) (oI : Obj), K.lookup Cl = some (c.obj Cl) ∧
  nsOkIn K c.N = true ∧ nsIn K c.N "__init__" = some (some (.ref f)) ∧ tailIn K excRoot c.bm = true ∧ K.lookup f = some oI ∧ oI.cls = .type "function"
theorem newE_of {K : Frag} {h : Heap} {Cl f : Addr} (X : K.In h) (e : newE K Cl f) : ∃ (c : EC) (mN : Str → Option Value) (oI : Obj), h.get? Cl = some (c.obj Cl) ∧ h.Ns c.N mN ∧ mN "__init__" = some (.ref f) ∧ OwnTail h excRoot c.bm ∧ h.get? f = some oI ∧ oI.cls = .type "function" := by
  refine xE2A5 e fun c oI ho hok hni ht ho' hcl => ?_
  try clear e
  exact ⟨c, _, oI, X _ _ ho, .of_isNs (isNs_of_in X hok), ns_some_of X (.of_isNs (isNs_of_in X hok)) hni, tail_of_in X ht, X _ _ ho', hcl⟩

theorem WC_newE {C : Cx} {σ : Sg} {Cl f : Addr} {args : List V} {P : V → Sg → Prop} {R R' : Around → Prop} (hR : ∀ A vals, R A → R' (A.under (.builtin "type.__call__" ⟨.ref Cl :: vals, []⟩))) (hok : newE C.K Cl f) (hl : args.length ≤ 1000)
    (h : ∀ a t, σ a = none → WC C R' f (.ref a :: args) (fun x σ' => x = .none ∧ P (.ref a) σ') (upd σ a (.exc Cl t none))) : WC C R Cl args P σ := by
  intro A s Q E vals r a rv k
  have X := C.kin.keeps a.keep
  refine xE3A5 (newE_of X hok) fun c mN oI hC hN hi T hf hfc => ?_
  refine Classical.byContradiction fun hG => ?_
  obtain ⟨hp, g, d, tk, os⟩ := s
  refine hG ?_
  clear hG
  refine code_callE PySem.F.excBase_Exception T hC hN hi hf hfc (fun h' e hm => ?_) (by rw [rv.length, sizeLine_eq]; (first | lia | omega))
  refine xE1A2 hm.there fun t he htn ht => ?_
  have a1 : At C h' σ := a.grow hm.keeps
  have hσ : ∀ b, hp.get? b = none → σ b = none ∧ C.h₀.get? b = none := fun b hb => by
    constructor
    · cases q : σ b with
      | none => rfl
      | some o =>
        refine xE1A0 ((a.objs b o q).there) fun ob e' => ?_
        rw [show hp.get? b = some ob from e'] at hb; cases hb
    · cases q : C.h₀.get? b with
      | none => rfl
      | some o => have := a.keep b o q; rw [show hp.get? b = some o from this] at hb; cases hb
  have a2 : At C h' (upd σ e (.exc Cl t none)) := by
    refine ⟨a1.keep, fun b o eb => ?_, fun b o eb => ?_⟩
    · by_cases q : b = e
      · subst q; rw [upd_same] at eb; cases eb; exact he
      · rw [upd_ne _ _ q] at eb; exact a1.objs b o eb
    · by_cases q : b = e
      · subst q; exact (hσ _ hm.new).2
      · rw [upd_ne _ _ q] at eb; exact a1.new b o eb
  have st : Stp Nil ⟨hp, g, d, tk, os⟩ σ ⟨h', g, d, tk, os⟩ (upd σ e (.exc Cl t none)) := by
    refine ⟨fun b o eb hb _ => hm.keeps b o eb, fun b o eb => ⟨o, hm.keeps b o eb⟩, fun b o eb hb => ?_, rfl, rfl⟩
    rw [upd_ne _ _ (fun q => by subst q; have z : hp.get? b = none := hm.new; rw [show hp.get? b = some o from eb] at z; cases z)]
    exact hb
  refine wpAny_call (h e t (hσ _ hm.new).1 _ _ _ _ _ (hR A vals r) a2 (.cons (.ref _) (st.reps a rv)) fun v x s' σ' e1 e2 e3 e4 => ?_)
  refine xE0A1 e4 fun hr6_ hP => ?_
  try clear e4
  obtain rfl := hr6_
  cases e1
  exact ⟨rfl, k _ _ s' σ' (.ref _) e2 (st.trans e3) hP⟩
end Mine
end
section
set_option Elab.async false
set_option maxRecDepth 100000
set_option linter.unusedVariables false
namespace Mine
open PySem PySem.W PyProof PySem.SeqAt

/-! ### exceptions in flight -/
structure Fly (B : Heap) (l : List Env) (e : Addr) (oe : Obj) (fl : Value) (h : Heap) : Prop where
  stay : B.StaysIn h
  new : B.get? e = none
  fr : h.FunFrames B l
  tr : ∃ vs T oT ts, h.get? e = some { oe with data := .fields vs } ∧ vs[1]? = some (.ref T) ∧ B.get? T = none ∧ T ≠ e ∧ h.get? T = some oT ∧ oT.data = .fields ts ∧ ts[3]? = some fl

theorem mapFields_eq (f : Array Value → Array Value) {o : Obj} {vs : Array Value} (hd : o.data = .fields vs) : Obj.mapFields f o = { o with data := .fields (f vs) } := by
  refine Classical.byContradiction fun hG => ?_
  obtain ⟨c, d, dt, sl⟩ := o
  refine hG ?_
  clear hG
  subst hd
  rfl
section
variable {M : Model} {A : Around} {E : Value → Shared → Prop} {s : Shared} {B : Heap} {env : Env} {outer : List Env} {L e : Addr} {oe : Obj} {Q : Unit → Shared → Prop}

theorem fly_set {l : List Env} {fl fl' : Value} {T : Addr} {vs ts : Array Value} {oT : Obj} {h : Heap} (k1 : B.StaysIn h) (k2 : B.get? e = none) (k3 : h.FunFrames B l)
    (he : h.get? e = some { oe with data := .fields vs }) (h1 : vs[1]? = some (.ref T)) (hT0 : B.get? T = none) (hTe : T ≠ e) (hT : h.get? T = some oT) (hd : oT.data = .fields ts) (h3 : ts[3]? = some fl) :
    Fly B l e oe fl' (h.update T (Obj.mapFields (·.setIfInBounds 3 fl'))) ∧ h.UpToSlots (h.update T (Obj.mapFields (·.setIfInBounds 3 fl'))) := by
  have hsz : 3 < ts.size := (Array.getElem?_eq_some_iff.mp h3).1
  have other : ∀ b, b ≠ T → (h.update T (Obj.mapFields (·.setIfInBounds 3 fl'))).get? b = h.get? b := fun b hb => Heap.get?_update_other _ _ (Ne.symm hb)
  have hme := mapFields_eq (·.setIfInBounds 3 fl') hd
  have hd' := Obj.data_mapFields hd (·.setIfInBounds 3 fl')
  refine ⟨⟨fun b o hb => (other b fun q => by rw [q, hT0] at hb; cases hb).trans (k1 b o hb), k2, k3.of_keeps fun b o hb hnf => ⟨o, (other b fun q => by rw [q, hT] at hb; cases hb; exact hnf _ hd).trans hb, rfl⟩,
    ⟨vs, T, _, _, (other e (Ne.symm hTe)).trans he, h1, hT0, hTe, Heap.get?_update_self _ hT (Obj.isFreed_of_fields hd'), hd', by simp [hsz]⟩⟩, fun b o hb hnf => ⟨o.slots, (other b fun q => by rw [q, hT] at hb; cases hb; exact hnf _ hd).trans hb⟩⟩

/-- a new entry -/
theorem fly_entry {vs : Array Value} {head : Value} {hadNext : Bool} (hfr : A.frames = some (env :: outer)) (hl : s.heap.FunFrames B (env :: outer)) (hf : env.frame = some L)
    (he : s.heap.get? e = some { oe with data := .fields vs }) (hkb : B.StaysIn s.heap) (hen : B.get? e = none) (hsz : 1 < vs.size)
    (h : ∀ h', Fly B (env :: outer) e oe (rawInt L) h' → s.heap.UpToSlots h' → Q () { s with heap := h' }) :
    wpAny M A (do let a ← frameOf env; let pl ← entryPlaceOf L hadNext; let b ← EntryCells.newEntry head a .none (rawInt L) .none pl; setField (.ref e) 1 b) Q E s := by
  have hene : e ∉ (env :: outer).filterMap (·.frame) := fun hm => by
    refine Classical.byContradiction fun hG => ?_
    refine xE0A1 (hl.mem hm) fun _ hz1_ => ?_
    refine xE1A1 hz1_ fun o ho hnf => ?_
    clear hz1_
    refine hG ?_
    clear hG
    rw [he] at ho; injection ho with ho; subst ho; exact hnf vs rfl
  refine wpAny_bind (wpAny_frameOf_fun hfr hl hf fun h₁ hs₁ => ?_)
  refine wpAny_bind (wpAny_entryPlaceOf fun pl hpl => ?_)
  unfold EntryCells.newEntry newFields
  refine wpAny_bind (wpAny_newObj_type ?_ (hpl.sizeOk5 _ _ _ _ _))
  have he₁ := (hs₁.2.1 e hene).trans he
  have kb₁ : B.StaysIn h₁ := fun b o hbo => (hs₁.2.1 b fun hm => by rw [(hl.mem hm).1] at hbo; cases hbo).trans (hkb b o hbo)
  generalize hE : ([head, .ref L, .none, rawInt L, .none] ++ (if pl.isEmpty then List.replicate 6 Value.none else pl)) = row
  have hrow : row.toArray[3]? = some (rawInt L) := by rw [← hE]; simp
  have he₂ := Heap.get?_push_of_some (h := h₁) { cls := .type "traceback", dict := none, data := .fields row.toArray } he₁
  refine wpAny_setField he₂ rfl hsz (h _ ?_ ?_)
  · have hTe : h₁.objs.size ≠ e := Nat.ne_of_gt (Heap.lt_size he₁)
    have he₃ := Heap.get?_update_self (Obj.mapFields (·.setIfInBounds 1 (Value.ref h₁.objs.size))) he₂ (Obj.isFreed_of_fields (Obj.data_mapFields rfl _))
    have hT₃ := (Heap.get?_update_other (h₁.push { cls := .type "traceback", dict := none, data := .fields row.toArray }) (Obj.mapFields (·.setIfInBounds 1 (Value.ref h₁.objs.size))) (Ne.symm hTe)).trans (Heap.get?_push_size h₁ rfl)
    have keep : ∀ b o, b ≠ e → h₁.get? b = some o → ((h₁.push { cls := .type "traceback", dict := none, data := .fields row.toArray }).update e (Obj.mapFields (·.setIfInBounds 1 (Value.ref h₁.objs.size)))).get? b = some o :=
      fun b o hbe hb => by rw [Heap.get?_update_other _ _ (Ne.symm hbe)]; exact Heap.get?_push_of_some _ hb
    refine ⟨fun b o hbo => keep b o (fun q => by rw [q, hen] at hbo; cases hbo) (kb₁ b o hbo), hen, hl.of_keeps fun b o hb hnf => ?_, ⟨_, h₁.objs.size, _, _, he₃, by simp [hsz], kb₁.fresh, hTe, hT₃, rfl, hrow⟩⟩
    refine xE1A0 (hs₁.2.2 b o hb) fun sl hs => ?_
    exact ⟨_, keep b _ (fun q => by rw [q, he] at hb; injection hb with hb; subst hb; exact hnf vs rfl) hs, rfl⟩
  · intro b o hb hnf
    refine xE1A0 (hs₁.2.2 b o hb) fun sl hs => ?_
    refine ⟨sl, ?_⟩
    rw [Heap.get?_update_other _ _ (fun q => by rw [← q, he] at hb; injection hb with hb; subst hb; exact hnf vs rfl)]
    exact Heap.get?_push_of_some _ hs

theorem fly_note0 {vs : Array Value} (hfr : A.frames = some (env :: outer)) (hl : s.heap.FunFrames B (env :: outer)) (hf : env.frame = some L)
    (he : s.heap.get? e = some { oe with data := .fields vs }) (hkb : B.StaysIn s.heap) (hen : B.get? e = none) (h1 : vs[1]? = some .none)
    (h : ∀ h', Fly B (env :: outer) e oe (rawInt L) h' → s.heap.UpToSlots h' → Q () { s with heap := h' }) : wpAny M A (noteFrame (.ref e) env) Q E s := by
  unfold noteFrame
  simp only [hf]
  refine wpAny_bind (wpAny_field he rfl h1 ?_)
  rw [if_neg (by decide)]
  exact fly_entry hfr hl hf he hkb hen (Array.getElem?_eq_some_iff.mp h1).1 h

theorem fly_note1 (hfr : A.frames = some (env :: outer)) (hf : env.frame = some L) (x : Fly B (env :: outer) e oe .none s.heap)
    (h : ∀ h', Fly B (env :: outer) e oe (rawInt L) h' → s.heap.UpToSlots h' → Q () { s with heap := h' }) : wpAny M A (noteFrame (.ref e) env) Q E s := by
  have k1 := x.stay
  have k2 := x.new
  have k3 := x.fr
  refine Classical.byContradiction fun hG => ?_
  refine xE4A0 x.tr fun vs T oT ts z => ?_
  refine xE0A6 z fun he h1 hT0 hTe hT hdT h3 => ?_
  refine hG ?_
  clear hG
  unfold noteFrame
  simp only [hf]
  refine wpAny_bind (wpAny_field he rfl h1 ?_)
  rw [if_pos (show (Value.ref T != Value.none) = true from by simp)]
  refine wpAny_bind (wpAny_field hT hdT h3 ?_)
  rw [if_neg (show ¬ ((Value.none == rawInt L) = true) from by simp [rawInt])]
  refine wpAny_bind (wpAny_setField hT hdT (Array.getElem?_eq_some_iff.mp h3).1 ?_)
  refine Classical.byContradiction fun hG => ?_
  obtain ⟨y, u⟩ := fly_set (fl' := Value.none) k1 k2 k3 he h1 hT0 hTe hT hdT h3
  refine xE4A2 y.tr fun vs' T' oT' ts' he' h1' _ => ?_
  refine hG ?_
  clear hG
  exact fly_entry (s := { s with heap := _ }) hfr y.fr hf he' y.stay y.new (Array.getElem?_eq_some_iff.mp h1').1 fun h' x1 x2 => h h' x1 (u.trans x2)

theorem fly_note2 (hf : env.frame = some L) {l : List Env} (x : Fly B l e oe (rawInt L) s.heap) (h : Q () s) : wpAny M A (noteFrame (.ref e) env) Q E s := by
  have k1 := x.stay
  have k2 := x.new
  have k3 := x.fr
  refine Classical.byContradiction fun hG => ?_
  refine xE4A0 x.tr fun vs T oT ts z => ?_
  refine xE0A6 z fun he h1 hT0 hTe hT hdT h3 => ?_
  refine hG ?_
  clear hG
  unfold noteFrame
  simp only [hf]
  refine wpAny_bind (wpAny_field he rfl h1 ?_)
  rw [if_pos (show (Value.ref T != Value.none) = true from by simp)]
  refine wpAny_bind (wpAny_field hT hdT h3 ?_)
  rw [if_pos (show (rawInt L == rawInt L) = true from by simp)]
  exact wpAny_pure h

theorem fly_flight {l : List Env} {fl : Value} (fr : Option Addr) (x : Fly B l e oe fl s.heap) (h : ∀ h', Fly B l e oe (fr.elim .none fun f => rawInt f) h' → s.heap.UpToSlots h' → Q () { s with heap := h' }) : wpAny M A (setFlight (.ref e) fr) Q E s := by
  have k1 := x.stay
  have k2 := x.new
  have k3 := x.fr
  refine Classical.byContradiction fun hG => ?_
  refine xE4A0 x.tr fun vs T oT ts z => ?_
  refine xE0A6 z fun he h1 hT0 hTe hT hdT h3 => ?_
  obtain ⟨y, u⟩ := fly_set (fl' := fr.elim .none fun f => rawInt f) k1 k2 k3 he h1 hT0 hTe hT hdT h3
  refine hG ?_
  clear hG
  unfold setFlight
  refine wpAny_bind (wpAny_field he rfl h1 ?_)
  rw [if_pos (show (Value.ref T != Value.none) = true from by simp)]
  exact wpAny_setField hT hdT (Array.getElem?_eq_some_iff.mp h3).1 (h _ y u)

theorem fly_back {l : List Env} {fl : Value} {E' : Value → Shared → Prop} (hf : env.frame = some L) (x : Fly B l e oe fl s.heap) (h : ∀ h', Fly B l e oe (rawInt L) h' → s.heap.UpToSlots h' → E' (.ref e) { s with heap := h' }) : cameBackBy M A env E' (.ref e) s := by
  have x' := x
  have k1 := x.stay
  have k2 := x.new
  have k3 := x.fr
  refine Classical.byContradiction fun hG => ?_
  refine xE4A0 x.tr fun vs T oT ts z => ?_
  refine xE0A6 z fun he h1 hT0 hTe hT hdT h3 => ?_
  refine hG ?_
  clear hG
  unfold cameBackBy
  refine wpAny_bind (wpAny_field he rfl h1 ?_)
  rw [if_neg (by simp)]
  rw [hf]
  exact fly_flight (some L) x' h

theorem fly_leave (hf : env.frame = some L) (x : Fly B (env :: outer) e oe (rawInt L) s.heap) (h : ∀ h', Fly B outer e oe .none h' → s.heap.UpToSlots h' → Q () { s with heap := h' }) : wpAny M A (leaving env (.ref e)) Q E s := by
  unfold leaving
  refine wpAny_bind (fly_note2 hf x (fly_flight none x fun h' y u => ?_))
  refine Classical.byContradiction fun hG => ?_
  obtain ⟨k1, k2, ⟨_, _, k3⟩, k4⟩ := y
  refine hG ?_
  clear hG
  exact h h' ⟨k1, k2, k3, k4⟩ u
end
end Mine
end
section
set_option Elab.async false
set_option maxRecDepth 100000
set_option linter.unusedVariables false
namespace Mine
open PySem PySem.W PyProof PySem.SeqAt

/-! ### raising -/
noncomputable def framesOf (l : List Env) : List Addr := l.filterMap (·.frame)
/-- the frames around lie untouched -/
noncomputable def OutS (l : List Env) (σ : Sg) : Prop := ∀ e ∈ l, e.scope.kind ≠ .module ∧ ∃ L o, e.frame = some L ∧ σ L = some (.raw o)

theorem wp_raiseE {M : Model} {A : Around} {E : Value → Shared → Prop} {env : Env} {s : Shared} {x : Sem Value} {Q : Flow → Shared → Prop} (hh : A.handled = none)
    (h : wpAny M A x (fun v s₁ => ∃ a Cl t d, ∃ c : EC, v = .ref a ∧ s₁.heap.get? Cl = some (c.obj Cl) ∧ c.bm.contains (.type "BaseException") = true ∧
      s₁.heap.get? a = some (excObj Cl t d) ∧ E (.ref a) s₁) E s) :
    wpAny M A (raiseStmt env (some x) none) Q E s := by
  unfold raiseStmt
  refine wpAny_bind (wpAny_mono h (fun v s₁ h₁ => ?_) fun _ _ x => x)
  refine xE5A0 h₁ fun a Cl t d c h₂ => ?_
  refine xE0A4 h₂ fun hv hC hb he hE => ?_
  clear h₁ h₂
  subst hv
  have hcB : (Value.ref Cl :: c.bm).contains (.type "BaseException") = true := by rw [List.contains_cons, hb, Bool.or_true]
  clear hb
  cases s₁
  cases c
  unfold excObj at he
  repeat (first | with_reducible refine wpAny_loadPart_at he ?_ | with_reducible refine wpAny_loadPart_at hC ?_ | (with_reducible refine wpAny_isSubtype_exc hC ?_; rw [hcB]) | wp_step)
  exact wpAny_raiseNew_none hh hE

section
variable {C : Cx} {R : Rm} {env : Env} {loc : Loc} {σ : Sg}

/-- an exception of the frame's own: made in s₀, noted perhaps -/
structure Rai (C : Cx) (env : Env) (outer : List Env) (PX : Addr → Addr → Addr → Sg → Prop) (N : Addr → Prop) (s : Shared) (σ : Sg) (a Cl t d : Addr) (s₀ : Shared) (σ₀ : Sg) : Prop where
  at_ : At C s₀.heap σ₀
  stp : Stp N s σ s₀ σ₀
  exc : σ₀ a = some (.exc Cl t (some d))
  new : s.heap.get? a = none
  px : PX a d Cl σ₀
  out : s₀.heap.FunFrames C.h₀ (env :: outer)
  own : σ₀ env.locals = none
  nt : NoTup (fun b => b ∈ a :: framesOf (env :: outer)) s₀.heap
noncomputable def Bas (a : Addr) (l : List Env) (s₀ : Shared) : Heap := hideAll s₀.heap (a :: framesOf l)
noncomputable def Held (C : Cx) (env : Env) (outer : List Env) (PX : Addr → Addr → Addr → Sg → Prop) (s : Shared) (σ : Sg) (e : Value) (s' : Shared) : Prop :=
  ∃ a Cl t d s₀ σ₀ h', e = .ref a ∧ Rai C env outer PX (Own env) s σ a Cl t d s₀ σ₀ ∧ s' = { s₀ with heap := h' } ∧ Fly (Bas a (env :: outer) s₀) (env :: outer) a (excObj Cl t (some d)) (rawInt env.locals) h' ∧ s₀.heap.UpToSlots h'
noncomputable def Risen (C : Cx) (env : Env) (outer : List Env) (PX : Addr → Addr → Addr → Sg → Prop) (s : Shared) (σ : Sg) (e : Value) (s' : Shared) : Prop :=
  (∃ a Cl t d σ₀, e = .ref a ∧ Rai C env outer PX (Own env) s σ a Cl t d s' σ₀) ∨ Held C env outer PX s σ e s'
theorem OutS.frames {h : Heap} (a : At C h σ) : ∀ {l : List Env}, OutS l σ → h.FunFrames C.h₀ l
  | [], _ => trivial
  | e :: r, x => by
    refine xE0A1 (x e (.head _)) fun hk hz1_ => ?_
    refine xE2A1 hz1_ fun L o hf ho => ?_
    clear hz1_
    refine xE0A1 (a.objs _ _ ho) fun hg hz2_ => ?_
    refine xE2A0 hz2_ fun es ep hd => ?_
    clear hz2_
    exact ⟨hk, ⟨L, o, hf, a.new _ _ ho, hg, fun vs q => by rw [hd] at q; cases q⟩, OutS.frames a fun e he => x e (.tail _ he)⟩
theorem Fo.frames {h : Heap} {outer : List Env} (a : At C h σ) (f : Fo C h σ env loc) (hf : env.frame = some env.locals) (x : OutS outer σ) : h.FunFrames C.h₀ (env :: outer) := by
  refine Classical.byContradiction fun hG => ?_
  refine xE1A1 f.vars fun m hr3_ _ => ?_
  refine xE3A2 hr3_ fun o es ep e hd _ => ?_
  try clear hr3_
  refine hG ?_
  clear hG
  exact ⟨by rw [f.kind]; decide, ⟨env.locals, o, hf, (f.new _ (.inl rfl)).1, e, fun vs q => by rw [hd] at q; cases q⟩, OutS.frames a x⟩
theorem mem_framesOf {l : List Env} {e : Env} {b : Addr} (he : e ∈ l) (hf : e.frame = some b) : b ∈ framesOf l := List.mem_filterMap.mpr ⟨e, he, hf⟩

theorem Rai.base {outer : List Env} {PX : Addr → Addr → Addr → Sg → Prop} {N : Addr → Prop} {s s₀ : Shared} {σ₀ : Sg} {a Cl t d : Addr} (r : Rai C env outer PX N s σ a Cl t d s₀ σ₀) :
    (Bas a (env :: outer) s₀).StaysIn s₀.heap ∧ (Bas a (env :: outer) s₀).get? a = none ∧ s₀.heap.FunFrames (Bas a (env :: outer) s₀) (env :: outer) :=
  ⟨fun b o h => of_hideAll _ h, hideAll_none _ (.head _), funFrames_hide r.out fun e he b hb => .tail _ (mem_framesOf he hb)⟩

theorem Rai.pre {outer : List Env} {PX : Addr → Addr → Addr → Sg → Prop} {N : Addr → Prop} {s s1 s₀ : Shared} {σ1 σ₀ : Sg} {a Cl t d : Addr} (st : Stp N s σ s1 σ1) (r : Rai C env outer PX N s1 σ1 a Cl t d s₀ σ₀) : Rai C env outer PX N s σ a Cl t d s₀ σ₀ := by
  refine ⟨r.at_, st.trans r.stp, r.exc, ?_, r.px, r.out, r.own, r.nt⟩
  cases q : s.heap.get? a with
  | none => rfl
  | some o =>
    refine xE1A0 (st.there _ o q) fun o' e' => ?_
    rw [r.new] at e'; cases e'

/-- the frames of a run that may raise -/
noncomputable def XTR (C : Cx) (R : Rm) (env : Env) (outer : List Env) (PX : Addr → Addr → Addr → Sg → Prop) (hf : env.frame = some env.locals) (hR : ∀ A, R.P A → A.frames = some (env :: outer)) : XT C R env where
  rel := Risen C env outer PX
  nrel := Held C env outer PX
  pre := fun {s σ loc s1 σ1 e s'} a f st h => by
    rcases h with ⟨a', Cl, t, d, σ₀, rfl, r⟩ | ⟨a', Cl, t, d, s₀, σ₀, h', rfl, r, z⟩
    · exact .inl ⟨a', Cl, t, d, σ₀, rfl, r.pre st⟩
    · exact .inr ⟨a', Cl, t, d, s₀, σ₀, h', rfl, r.pre st, z⟩
  note := fun {A s σ e s' E'} hA h k => by
    rcases h with ⟨a', Cl, t, d, σ₀, rfl, r⟩ | ⟨a', Cl, t, d, s₀, σ₀, h', rfl, r, rfl, z, u⟩
    · refine xE0A2 r.base fun b1 b2 b3 => ?_
      exact fly_note0 (oe := excObj Cl t (some d)) (hR A hA) b3 hf (r.at_.exc r.exc) b1 b2 rfl fun h' y u => k _ ⟨a', Cl, t, d, s', σ₀, h', rfl, r, rfl, y, u⟩
    · exact fly_note2 (s := { s₀ with heap := h' }) hf z (k _ ⟨a', Cl, t, d, s₀, σ₀, h', rfl, r, rfl, z, u⟩)
  back := fun {A s σ e s' E'} hA h k => by
    refine Classical.byContradiction fun hG => ?_
    refine xE6A0 h fun a' Cl t d s₀ σ₀ h2 => ?_
    refine xE1A0 h2 fun h' h3 => ?_
    refine xE0A4 h3 fun q1 r q2 z u => ?_
    clear h h2 h3
    subst q1 q2
    refine hG ?_
    clear hG
    exact fly_back (s := { s₀ with heap := h' }) hf z fun h'' y u' => k _ (.inr ⟨a', Cl, t, d, s₀, σ₀, h'', rfl, r, rfl, y, u.trans u'⟩)

theorem noTupF {h : Heap} {outer : List Env} {b Cl t d : Addr} (a : At C h σ) (f : Fo C h σ env loc) (hf : env.frame = some env.locals) (he : σ b = some (.exc Cl t (some d))) (x : OutS outer σ) : NoTup (fun c => c ∈ b :: framesOf (env :: outer)) h := by
  intro c hc o eo hcl items n hd
  rcases List.mem_cons.mp hc with rfl | hc
  · have := a.exc he
    rw [eo] at this; cases this; cases hcl
  · unfold framesOf at hc
    rw [List.filterMap_cons, hf] at hc
    rcases List.mem_cons.mp hc with rfl | hc
    · exact f.noTup _ (.inl rfl) o eo hcl items n hd
    · refine xE1A1 (List.mem_filterMap.mp hc) fun e he' hfe => ?_
      refine xE0A1 (x e he') fun _ hz4_ => ?_
      refine xE2A1 hz4_ fun L o' hf' ho => ?_
      clear hz4_
      rw [hf'] at hfe; cases hfe
      refine xE0A1 (a.objs _ _ ho) fun hg hz5_ => ?_
      refine xE2A0 hz5_ fun es ep hd' => ?_
      clear hz5_
      rw [eo] at hg; cases hg; rw [hd] at hd'; cases hd'
noncomputable abbrev KRx (C : Cx) (outer : List Env) (PX : Addr → Addr → Addr → Sg → Prop) (f : Addr) (σ : Sg) (y : V) (σ₁ : Sg) : Prop := ∃ a Cl t d, y = .ref a ∧ σ a = none ∧ σ₁ a = some (.exc Cl t (some d)) ∧ newE C.K Cl f ∧ OutS outer σ₁ ∧ PX a d Cl σ₁
/-- what may be raised -/
noncomputable def Rz (C : Cx) (R : Rm) (env : Env) (outer : List Env) (PX : Addr → Addr → Addr → Sg → Prop) (X : XT C R env) : Prop :=
  ∀ loc σ P x pos f, WE C R env loc (eval x env) (KRx C outer PX f σ) σ → WS C R env X (exec (.Raise (some x) none pos) env) P loc σ
theorem S_Raise {outer : List Env} {PX : Addr → Addr → Addr → Sg → Prop} {hf : env.frame = some env.locals} {hR : ∀ A, R.P A → A.frames = some (env :: outer)} {P : Fl → Loc → Sg → Prop} {x : Expr} {pos : Pos} {f : Addr}
    (h : WE C R env loc (eval x env) (KRx C outer PX f σ) σ) :
    WS C R env (XTR C R env outer PX hf hR) (exec (.Raise (some x) none pos) env) P loc σ := by
  intro A s Q E r a fo k kx
  rw [arm_exec_Raise]
  refine wpAny_bind (wpAny_standAt (wp_raiseE (R.handled A r) (wpAny_bind (h A s _ E r a fo fun v y s₁ σ₁ e1 e2 e3 e4 => wpAny_bind (wpAny_standAt (wpAny_pure ?_))))))
  refine Classical.byContradiction fun hG => ?_
  refine xE4A5 e4 fun b Cl t d hr6_ hb he hok ho hP => ?_
  try clear e4
  obtain rfl := hr6_
  refine hG ?_
  clear hG
  cases e1
  refine xE3A5 (newE_of (C.kin.keeps e2.keep) hok) fun c mN oI hC hN hi T hff hfc => ?_
  refine ⟨b, Cl, t, some d, c, rfl, hC, T.hasType (by decide +kernel), e2.exc he, kx _ _ (.inl ⟨b, Cl, t, d, σ₁, rfl, e2, e3.own, he, ?_, hP, (fo.step a e3).frames e2 hf ho, ((fo.step a e3).new _ (.inl rfl)).2, noTupF e2 (fo.step a e3) hf he ho⟩)⟩
  cases q : s.heap.get? b with
  | none => rfl
  | some o => have := e3.dom b o q hb; rw [he] at this; cases this
end
end Mine
end
section
set_option Elab.async false
set_option maxRecDepth 100000
set_option linter.unusedVariables false
namespace Mine
open PySem PySem.W PyProof PySem.SeqAt

/-! ### calls that may raise -/
noncomputable def lvF (n : Nat) (l : List Env) : Rm where
  P A := (lv n).P A ∧ A.frames = some l
  units := fun A h => (lv n).units A h.1
  depth := fun A h => (lv n).depth A h.1
  handled := fun A h => (lv n).handled A h.1

/-- an exception that has left the frame -/
noncomputable def Gone (C : Cx) (outer : List Env) (PX : Addr → Addr → Addr → Sg → Prop) (s : Shared) (σ : Sg) (e : Value) (s' : Shared) : Prop :=
  ∃ a Cl t d s₀ σ₀ h' as, e = .ref a ∧ At C s₀.heap σ₀ ∧ Stp Nil s σ s₀ σ₀ ∧ σ₀ a = some (.exc Cl t (some d)) ∧ s.heap.get? a = none ∧ PX a d Cl σ₀ ∧ s' = { s₀ with heap := h' } ∧
    (∀ b ∈ as, b = a ∨ (s.heap.get? b = none ∧ σ₀ b = none) ∨ b ∈ framesOf outer) ∧ NoTup (fun b => b ∈ as) s₀.heap ∧ Fly (hideAll s₀.heap as) outer a (excObj Cl t (some d)) .none h' ∧ s₀.heap.UpToSlots h'
noncomputable def WX (C : Cx) (R : Around → Prop) (outer : List Env) (f : Addr) (args : List V) (P : V → Sg → Prop) (PX : Addr → Addr → Addr → Sg → Prop) (σ : Sg) : Prop :=
  ∀ (A : Around) (s : Shared) (Q E : Value → Shared → Prop) (vals : List Value), R A → At C s.heap σ → Reps s.heap vals args →
    (∀ v x s' σ', Rep s'.heap v x → At C s'.heap σ' → Stp Nil s σ s' σ' → P x σ' → Q v s') → (∀ e s', Gone C outer PX s σ e s' → E e s') →
    codeAny (model C.prog C.w) A (.call (.ref f) ⟨vals, []⟩) (wants Q E) s

theorem WX_def {C : Cx} {σ : Sg} {f : Addr} {oc : Value} {od : Option Addr} {osl : Array (Option Value)} {fd : FuncData} {body : List Stmt} {args : List V} {names : List Str} {P : V → Sg → Prop} {PX : Addr → Addr → Addr → Sg → Prop} {n : Nat} {outer : List Env}
    (hK : C.K.lookup f = some ⟨oc, od, .func fd, osl⟩) (hcd : codeIn C.K fd.code fd.qualname = true) (hbody : fd.body = .stmts body)
    (hg : fd.globals = mainGlobals) (hbi : fd.builtins = builtinsNs) (hcl : fd.closure = []) (hb : BindF C.K fd names args.length [])
    (hsc : fd.scope.names.all (fun x => x.2 != .cell && x.2 != .free) = true) (hloc : (names.all fun x => decide (fd.scope.names.lookup x = some .local)) = true)
    (h : ∀ L, σ L = none → ∀ Qp : V → Sg → Prop, (∀ x s, P x s → Qp x s) → ∀ X, Rz C (lvF n (callEnv fd L f :: outer)) (callEnv fd L f) outer PX X → WS C (lvF n (callEnv fd L f :: outer)) (callEnv fd L f) X (execs body (callEnv fd L f)) (Rq Qp) (locOf names args) σ)
    (hco : fd.scope.isCoroutine = false := by rfl) (hgen : fd.scope.isGenerator = false := by rfl) (hk : fd.scope.kind = .function := by rfl) :
    WX C (lvF (n + 1) outer).P outer f args P PX σ := by
  intro A s Q E vals r a rv k kx
  have X := C.kin.keeps a.keep
  have hl : vals.length = args.length := rv.length
  have hbs := hb s vals X hl
  rw [List.append_nil] at hbs
  have cellAll : ∀ x ∈ fd.scope.names, x.2 ≠ .cell ∧ x.2 ≠ .free := fun x hx => by
    have := List.all_eq_true.mp hsc x hx
    simp only [Bool.and_eq_true, bne_iff_ne, ne_eq] at this
    exact this
  refine codeAny_call_def (by have := r.1.2.1; rw [recLimit_eq]; omega) (X _ _ hK) rfl (C.top.nolimit.keeps a.keep) (codeRec_of X hcd) hbody hbs (fun x hx => (cellAll x hx).1) (fun x hx => ?_) (fun h₁ hn hk₁ => ?_) hco hgen hk
  · obtain ⟨x1, x2⟩ := x
    have := (List.of_mem_zip hx).1
    exact of_decide_eq_true (List.all_eq_true.mp hloc _ this)
  · have a₁ := a.grow hk₁
    have kindNo : ∀ x, ¬ ((callEnv fd s.heap.objs.size f).kindOf x = some .cell ∨ (callEnv fd s.heap.objs.size f).kindOf x = some .free) := by
      intro x hx
      have key : ∀ kd, fd.scope.names.lookup x = some kd → kd ≠ .cell ∧ kd ≠ .free := fun kd e => by
        have : (x, kd) ∈ fd.scope.names := mem_lookup e
        exact cellAll _ this
      rcases hx with hx | hx
      · exact (key _ hx).1 rfl
      · exact (key _ hx).2 rfl
    have fo : Fo C h₁ σ (callEnv fd s.heap.objs.size f) (locOf names args) := by
      refine ⟨hk, hg, hbi, ⟨_, hn, fun x v hv _ => ?_⟩, fun x c hc => ?_, fun x hx => absurd hx (kindNo x), fun x y c hc => ?_, fun b hb' => ?_⟩
      · refine xE1A1 (lookup_zip rv hv) fun val e1 e2 => ?_
        exact ⟨val, e1, e2.keep (N := fun _ => False) (fun b o e _ => hk₁ b o e) fun _ n => n.elim⟩
      · have : fd.closure.lookup x = some c := hc
        rw [hcl] at this; cases this
      · have : fd.closure.lookup x = some c := hc
        rw [hcl] at this; cases this
      · rcases hb' with rfl | ⟨x, hx⟩
        · exact ⟨a.base_new, a.fresh⟩
        · have : fd.closure.lookup x = some b := hx
          rw [hcl] at this; cases this
    have own : ∀ b, Own (callEnv fd s.heap.objs.size f) b → b = s.heap.objs.size := fun b q => by
      rcases q with rfl | ⟨x, hx⟩
      · rfl
      · have : fd.closure.lookup x = some b := hx
        rw [hcl] at this; cases this
    have stOf : ∀ {s' σ' tk}, Stp (Own (callEnv fd s.heap.objs.size f)) { s with heap := h₁, toks := tk } σ s' σ' → Stp Nil s σ s' σ' := fun {s' σ' tk} e4 =>
      ⟨fun b o e hb _ => e4.keep b o (hk₁ b o e) hb fun q => by rw [own b q] at e; exact Nat.lt_irrefl _ (Heap.lt_size e), fun b o e => e4.there b o (hk₁ b o e), fun b o e hb => e4.dom b o (hk₁ b o e) hb, e4.gens, e4.os⟩
    have hfr : (A.deeper (callEnv fd s.heap.objs.size f)).frames = some (callEnv fd s.heap.objs.size f :: outer) := Around.frames_deeper r.2
    refine h _ a.fresh P (fun _ _ h => h) (XTR C _ _ outer PX rfl fun A h => h.2) (fun _ _ _ _ _ _ h => S_Raise h) _ { s with heap := h₁, toks := _ } _ _ ⟨lv_deeper r.1 _, hfr⟩ a₁ fo (fun fw fl s' loc' σ' e1 e2 e3 e4 e5 => ?_) fun e s' q => ?_
    · refine xE1A1 e5 fun σ'' hs hp => ?_
      try clear e5
      show Q _ s'
      refine k _ (retV fl) s' σ'' ?_ (e2.forget hs) ((stOf e4).forget hs) hp
      cases e1 with
      | next => exact .none
      | brk => exact .none
      | cont => exact .none
      | ret hv => exact hv
    · have sizeN : s.heap.get? s.heap.objs.size = none := Heap.get?_none_of_le (Nat.le_refl _)
      have gone : ∀ a Cl t d s₀ σ₀ h', Rai C (callEnv fd s.heap.objs.size f) outer PX (Own (callEnv fd s.heap.objs.size f)) { s with heap := h₁, toks := s.toks + (names.zip vals).length } σ a Cl t d s₀ σ₀ →
          Fly (Bas a (callEnv fd s.heap.objs.size f :: outer) s₀) outer a (excObj Cl t (some d)) .none h' → s₀.heap.UpToSlots h' → Gone C outer PX s σ (.ref a) { s₀ with heap := h' } := by
        intro a Cl t d s₀ σ₀ h' rr y u
        have st := stOf rr.stp
        refine ⟨a, Cl, t, d, s₀, σ₀, h', _, rfl, rr.at_, st, rr.exc, ?_, rr.px, rfl, fun b hb => ?_, rr.nt, y, u⟩
        · cases q : s.heap.get? a with
          | none => rfl
          | some o => have := hk₁ _ _ q; have z := rr.new; rw [show h₁.get? a = some o from this] at z; cases z
        · rcases List.mem_cons.mp hb with rfl | hb
          · exact .inl rfl
          · unfold framesOf at hb
            rw [List.filterMap_cons] at hb
            rcases List.mem_cons.mp hb with rfl | hb
            · exact .inr (.inl ⟨sizeN, rr.own⟩)
            · exact .inr (.inr hb)
      rcases q with ⟨a', Cl, t, d, σ₀, rfl, rr⟩ | ⟨a', Cl, t, d, s₀, σ₀, h', rfl, rr, rfl, z, u⟩
      · refine xE0A2 rr.base fun b1 b2 b3 => ?_
        unfold leaving
        refine wpAny_bind (fly_note0 (oe := excObj Cl t (some d)) hfr b3 rfl (rr.at_.exc rr.exc) b1 b2 rfl fun h' y u => ?_)
        refine fly_flight (s := { s' with heap := h' }) none y fun h'' y' u' => ?_
        refine Classical.byContradiction fun hG => ?_
        obtain ⟨k1, k2, ⟨_, _, k3⟩, k4⟩ := y'
        refine hG ?_
        clear hG
        exact kx _ _ (gone a' Cl t d s' σ₀ h'' rr ⟨k1, k2, k3, k4⟩ (u.trans u'))
      · exact fly_leave (s := { s₀ with heap := h' }) rfl z fun h'' y u' => kx _ _ (gone a' Cl t d s₀ σ₀ h'' rr y (u.trans u'))
end Mine
end
section
set_option Elab.async false
set_option maxRecDepth 100000
set_option linter.unusedVariables false
namespace Mine
open PySem PySem.W PyProof PySem.SeqAt

section
variable {C : Cx} {R : Rm} {env : Env} {loc : Loc} {σ : Sg}

/-- a method of an own object that may raise, called -/
theorem wp_callMX {A : Around} {s : Shared} {outer : List Env} {PX : Obj → Addr → Addr → Addr → Sg → Prop} {P : V → Sg → Prop} {Q E : Value → Shared → Prop} {o : Expr} {name : Str} {ap pos : Pos} {args : List Expr} {pl : Sem Bool} (r : R.P A) (at_ : At C s.heap σ) (fo : Fo C s.heap σ env loc)
    (h : WE C R env loc (eval o env) (fun x σ₁ => ∃ a Cl d g n f, x = .ref a ∧ σ₁ a = some (.inst Cl d) ∧ σ₁ d = some (.ns g n) ∧ g name = none ∧ mthOk C.K Cl name f = true ∧
      WL C R env loc (spliced (backTo pos (starEach args env))) (fun xs σ₂ => ∀ o', (∃ es ep, o'.data = .dict es ep) → WX C R.P outer f (.ref a :: xs) (fun y σ' => σ' env.locals = some (.raw o') ∧ P y (fun b => if b = env.locals then none else σ' b)) (PX o') (upd σ₂ env.locals (.raw o'))) σ₁) σ)
    (he : methEq env o name ap pos args pl) (hplain : (backTo pos (starEach args env)).any (·.1) = false)
    (k : ∀ v x s' σ', Rep s'.heap v x → At C s'.heap σ' → Stp Nil s σ s' σ' → P x σ' → Q v s')
    (kx : ∀ s₁ σ₁ o' e s', At C s₁.heap σ₁ → Fo C s₁.heap σ₁ env loc → Stp Nil s σ s₁ σ₁ → s₁.heap.get? env.locals = some o' → (∃ es ep, o'.data = .dict es ep) → Gone C outer (PX o') s₁ (upd σ₁ env.locals (.raw o')) e s' → E e s') :
    wpAny (model C.prog C.w) A (eval (.Call (.Attribute o name ap) args [] pos) env) Q E s := by
  refine methodCall_KW (kws := []) (pl := pl) (h A s _ E r at_ fo fun v x s₁ σ₁ e1 e2 e3 e4 => ?_) he
  refine Classical.byContradiction fun hG => ?_
  refine xE6A5 e4 fun x Cl d g n f hr1_ q1 q2 q3 q4 q5 => ?_
  try clear e4
  obtain rfl := hr1_
  refine hG ?_
  clear hG
  cases e1
  have ha : s₁.heap.get? x = some (instObj Cl d) := e2.objs x _ q1
  refine xE2A3 (e2.objs d _ q2) fun es ep hd hkk hl hf => ?_
  have X := C.kin.keeps e2.keep
  have hh := hf name
  rw [q3] at hh
  have hnone := hh.isNone
  unfold mthOk at q4
  simp only [Bool.and_eq_true, beq_iff_eq] at q4
  refine Classical.byContradiction fun hG => ?_
  refine xE0A1 q4 fun hr2_ o4 => ?_
  try clear q4
  refine xE0A1 hr2_ fun hr1_ o3 => ?_
  try clear hr2_
  obtain ⟨o1, o2⟩ := hr1_
  refine hG ?_
  clear hG
  have I : InstAt s₁.heap x (instObj Cl d) Cl (some (dictOf es ep)) := ⟨ha, rfl, rfl, hd⟩
  refine method_fn X I (plainGet_of o1).1 (plainGet_of o1).2 o2 (beq_iff_eq.mp o3) ?_ ?_
  · show (lookIn name (dictOf es ep)).map _ = _
    rw [lookIn_dict]
    unfold getL
    rw [Option.map_eq_none_iff] at hnone
    rw [hnone]
    have : es.any (·.refKey) = false := by
      rw [List.any_eq_false]
      intro e he
      refine xE2A0 (hkk e he) fun k t q => ?_
      simp [DictEntry.refKey, q]
    rw [this]; rfl
  · have f1 := fo.step at_ e3
    refine callWith_of (P := C.K.In) (by rw [hplain]; rfl) (keeps_K o4) (evalArgs_of hplain (q5 A s₁ _ E r e2 f1 fun vs xs s₂ σ₂ z1 z2 z3 z4 => ⟨C.kin.keeps z2.keep, ?_⟩))
    have f2 := f1.step e2 z3
    refine Classical.byContradiction fun hG => ?_
    refine xE1A1 f2.vars fun m hr3_ _ => ?_
    refine xE3A2 hr3_ fun o' es' ep' eo hd' _ => ?_
    try clear hr3_
    refine hG ?_
    clear hG
    have hL := f2.new env.locals (.inl rfl)
    have a3 : At C s₂.heap (upd σ₂ env.locals (.raw o')) := z2.add hL.1 (show RepO C s₂.heap env.locals (.raw o') from ⟨eo, es', ep', hd'⟩)
    have rv3 := (Reps.cons (.ref x) z1 : Reps s₂.heap (.ref x :: vs) (.ref x :: xs))
    refine wpAny_call (z4 o' ⟨es', ep', hd'⟩ A s₂ Q E _ r a3 rv3 (fun v y s' σ' y1 y2 y3 y4 => ?_) fun e s' hg => kx s₂ σ₂ o' e s' z2 f2 (e3.trans z3) eo ⟨es', ep', hd'⟩ hg)
    refine xE0A1 y4 fun yL yP => ?_
    try clear y4
    refine k v y s' _ y1 (y2.forget fun a ao e => ?_) ((e3.trans z3).trans ⟨fun b ob eb hb _ => ?_, y3.there, fun b ob eb hb => ?_, y3.gens, y3.os⟩) yP
    · by_cases q : a = env.locals
      · rw [if_pos q] at e; cases e
      · rw [if_neg q] at e; exact e
    · by_cases q : b = env.locals
      · subst q
        rw [eo] at eb; cases eb
        exact (y2.objs _ _ yL).1
      · exact y3.keep b ob eb (by rw [upd_ne _ _ q]; exact hb) id
    · by_cases q : b = env.locals
      · rw [if_pos q]
      · rw [if_neg q]; exact y3.dom b ob eb (by rw [upd_ne _ _ q]; exact hb)

/-- what is left of the state when the exception is caught -/
noncomputable def lessS (σ : Sg) (L a : Addr) : Sg := fun b => if b = L then none else if b = a then none else σ b
theorem lessS_some {σ : Sg} {L a b : Addr} {o : AO} (e : lessS σ L a b = some o) : b ≠ L ∧ b ≠ a ∧ σ b = some o := by
  unfold lessS at e
  split at e
  · cases e
  · split at e
    · cases e
    · rename_i h1 h2; exact ⟨h1, h2, e⟩
theorem caught_state {s₁ s₀ : Shared} {σ₁ σ₀ : Sg} {o' : Obj} {a Cl t d : Addr} {h : Heap} {as : List Addr} {l : List Env} {fl : Value} (a1 : At C s₁.heap σ₁) (f1 : Fo C s₁.heap σ₁ env loc) (eL : s₁.heap.get? env.locals = some o') (hd : ∃ es ep, o'.data = .dict es ep)
    (a0 : At C s₀.heap σ₀) (st : Stp Nil s₁ (upd σ₁ env.locals (.raw o')) s₀ σ₀) (ex : σ₀ a = some (.exc Cl t (some d))) (hn : s₁.heap.get? a = none) (hL : σ₀ env.locals = some (.raw o')) (has : ∀ b ∈ as, b = a ∨ (s₁.heap.get? b = none ∧ σ₀ b = none) ∨ b = env.locals)
    (nt : NoTup (fun b => b ∈ as) s₀.heap) (fly : Fly (hideAll s₀.heap as) l a (excObj Cl t (some d)) fl h) (u : s₀.heap.UpToSlots h) :
    At C h (lessS σ₀ env.locals a) ∧ Fo C h (lessS σ₀ env.locals a) env loc ∧ Stp (Own env) s₁ σ₁ { s₀ with heap := h } (lessS σ₀ env.locals a) ∧ ¬ Own env a ∧ C.h₀.get? a = none := by
  have kp : Keeps (fun b => b ∈ as) s₀.heap h := fun b o eb nb => fly.stay b o (hideAll_get _ eb nb)
  have oldAs : ∀ b o, s₁.heap.get? b = some o → b ≠ env.locals → b ∉ as := fun b o eb hb hm => by
    rcases has b hm with rfl | ⟨q, _⟩ | q
    · rw [hn] at eb; cases eb
    · rw [q] at eb; cases eb
    · exact hb q
  have st1 : ∀ b o, s₁.heap.get? b = some o → σ₁ b = none → b ≠ env.locals → s₀.heap.get? b = some o ∧ σ₀ b = none := fun b o eb hb hne =>
    ⟨st.keep b o eb (by rw [upd_ne _ _ hne]; exact hb) id, st.dom b o eb (by rw [upd_ne _ _ hne]; exact hb)⟩
  have hL0 : s₀.heap.get? env.locals = some o' := (a0.objs _ _ hL).1
  have ownA : ¬ Own env a := fun q => (f1.there q).elim fun o e => by rw [hn] at e; cases e
  have aL : At C s₁.heap (upd σ₁ env.locals (.raw o')) := a1.add (f1.new _ (.inl rfl)).1 (show RepO C s₁.heap env.locals (.raw o') from ⟨eL, hd⟩)
  have rp : ∀ {v y}, Rep s₁.heap v y → Rep h v y := fun r => (st.rep aL r).keep kp nt
  refine ⟨⟨fun b o eb => ?_, fun b o eb => ?_, fun b o eb => ?_⟩, ⟨f1.kind, f1.glob, f1.bi, ?_, fun z c hc => ?_, f1.has, f1.nodup, fun b hb => ⟨(f1.new b hb).1, ?_⟩⟩, ⟨fun b o eb hb nb => ?_, fun b o eb => ?_, fun b o eb hb => ?_, st.gens, st.os⟩, ownA, a0.new _ _ ex⟩
  · refine kp b o (a0.keep b o eb) fun hm => ?_
    rcases has b hm with rfl | ⟨q, _⟩ | q
    · rw [a0.new _ _ ex] at eb; cases eb
    · have := a1.keep b o eb; rw [q] at this; cases this
    · rw [q, (f1.new _ (.inl rfl)).1] at eb; cases eb
  · refine xE0A2 (lessS_some eb) fun h1 h2 h3 => ?_
    refine (a0.objs b o h3).keep kp nt fun hm => ?_
    rcases has b hm with q | ⟨_, q⟩ | q
    · exact h2 q
    · rw [q] at h3; cases h3
    · exact h1 q
  · exact a0.new b o (lessS_some eb).2.2
  · refine Classical.byContradiction fun hG => ?_
    refine xE1A1 f1.vars fun m hr4_ hm => ?_
    refine xE3A2 hr4_ fun o es ep e hd' r => ?_
    try clear hr4_
    refine hG ?_
    clear hG
    rw [eL] at e; cases e
    obtain ⟨sl, hs⟩ := u env.locals o' hL0 fun vs q => by rw [hd'] at q; cases q
    refine ⟨m, ⟨_, es, ep, hs, hd', r⟩, fun x v hx hk => ?_⟩
    refine xE1A1 (hm x v hx hk) fun val e1 e2 => ?_
    exact ⟨val, e1, rp e2⟩
  · refine xE2A2 (f1.cell z c hc) fun o cv e dd hcv => ?_
    have hne : c ≠ env.locals := fun q => by
      refine xE2A0 hd fun es ep hd' => ?_
      try clear hd
      rw [q, eL] at e; cases e; rw [dd] at hd'; cases hd'
    refine ⟨o, cv, kp _ _ (st1 c o e (f1.new c (.inr ⟨z, hc⟩)).2 hne).1 (oldAs c o e hne), dd, fun v hv hk => ?_⟩
    refine xE1A1 (hcv v hv hk) fun val e1 e2 => ?_
    exact ⟨val, e1, rp e2⟩
  · unfold lessS
    by_cases q : b = env.locals
    · rw [if_pos q]
    · rw [if_neg q]
      split
      · rfl
      · refine xE1A0 (f1.there hb) fun o e => ?_
        exact (st1 b o e (f1.new b hb).2 q).2
  · have hne : b ≠ env.locals := fun q => nb (.inl q)
    exact kp _ _ (st1 b o eb hb hne).1 (oldAs b o eb hne)
  · by_cases q : b = env.locals
    · refine xE2A0 hd fun es ep hd' => ?_
      try clear hd
      obtain ⟨sl, hs⟩ := u env.locals o' hL0 fun vs z => by rw [hd'] at z; cases z
      rw [q]; exact ⟨_, hs⟩
    · refine xE1A0 (st.there b o eb) fun o1 e1 => ?_
      exact ⟨o1, kp _ _ e1 (oldAs b o eb q)⟩
  · unfold lessS
    by_cases q : b = env.locals
    · rw [if_pos q]
    · rw [if_neg q]
      split
      · rfl
      · exact (st1 b o eb hb q).2

/-- the field of an exception is read from its own dict -/
noncomputable def fldE (K : Frag) (Cl : Addr) (name : Str) : Bool := getE K Cl name && hasDictIn K Cl && (match findIn K (.ref Cl) name with | some attr => noGet K attr | none => false)
theorem wp_fldE {A : Around} {s : Shared} {a Cl d : Addr} {name : Str} {expr : Bool} {g : Str → Option V} {n : Nat} {x : V} {ox : Obj} {Q : Value → Shared → Prop} {E : Value → Shared → Prop} (at_ : At C s.heap σ) (ha : s.heap.get? a = some ox) (hc : ox.cls = .ref Cl) (hn : notCls ox = true) (hd : ox.dict = some d) (e2 : σ d = some (.ns g n)) (hx : g name = some x)
    (hok : fldE C.K Cl name = true) (h : ∀ v, Rep s.heap v x → Q v { s with toks := s.toks + 1 }) : wpAny (model C.prog C.w) A (getAttr (.ref a) name expr) Q E s := by
  refine xE2A3 (at_.objs d _ e2) fun es ep hdd hk hl hf => ?_
  have X := C.kin.keeps at_.keep
  have hh := hf name
  rw [hx] at hh
  refine xE1A1 hh.isSome fun v hv hr => ?_
  unfold fldE at hok
  simp only [Bool.and_eq_true] at hok
  refine Classical.byContradiction fun hG => ?_
  refine xE0A1 hok fun hr5_ o3 => ?_
  try clear hok
  refine xE0A1 hr5_ fun o1 o2 => ?_
  try clear hr5_
  refine hG ?_
  clear hG
  split at o3
  · rename_i attr hattr
    have I : InstAt s.heap a ox Cl (some (dictOf es ep)) := ⟨ha, hc, hn, by rw [hd]; exact hdd⟩
    refine wp_getAttrE X I o1 (findObj_own o2 hattr o3 ?_) hr.handed (h v hr)
    show getL name es = some (some v)
    unfold getL
    refine Classical.byContradiction fun hG => ?_
    refine xE1A1 (Option.map_eq_some_iff.mp hv) fun en he hr6_ => ?_
    obtain rfl := hr6_
    refine hG ?_
    clear hG
    rw [he]
  · cases o3

theorem Fo.anew {s : Shared} {h' : Heap} {loc' : Loc} {m m' : Str → Option Value} (a : At C s.heap σ) (f : Fo C s.heap σ env loc) (hn : s.heap.Ns env.locals m) (hn' : h'.Ns env.locals m') (hs : Heap.SameBut env.locals s.heap h')
    (hl : ∀ z w, loc' z = some w → env.kindOf z = some .local → ∃ val, m' z = some val ∧ Rep s.heap val w) (hc : ∀ z w, loc' z = some w → env.kindOf z = some .cell ∨ env.kindOf z = some .free → loc z = some w) (t : Nat) :
    At C h' σ ∧ Fo C h' σ env loc' ∧ Stp (Own env) s σ { s with heap := h', toks := t } σ := by
  have hL := f.new env.locals (.inl rfl)
  have hkp : Keeps (fun b => b = env.locals) s.heap h' := fun b o eb n => (hs.2 b n).trans eb
  have nt : NoTup (fun b => b = env.locals) s.heap := fun b n o eo => by subst n; exact f.noTup _ (.inl rfl) o eo
  refine ⟨⟨fun b o eb => (hs.2 b fun q => ?_).trans (a.keep b o eb), fun b ao eb => (a.objs b ao eb).keep hkp nt fun q => ?_, a.new⟩, ⟨f.kind, f.glob, f.bi, ⟨_, hn', fun z w hz hkz => ?_⟩, fun z c hcc => ?_, f.has, f.nodup, f.new⟩, ⟨fun b o eb hb n => (hs.2 b fun q => n (.inl q)).trans eb, fun b o eb => ?_, fun _ _ _ h => h, rfl, rfl⟩⟩
  · subst q; rw [hL.1] at eb; cases eb
  · subst q; rw [hL.2] at eb; cases eb
  · refine xE1A1 (hl z w hz hkz) fun val e1 e2 => ?_
    exact ⟨val, e1, e2.keep hkp nt⟩
  · refine xE2A2 (f.cell z c hcc) fun o cv e d hcv => ?_
    have hne : c ≠ env.locals := by
      rintro rfl
      refine xE3A2 hn fun o' es ep e' d' _ => ?_
      try clear hn
      rw [e] at e'; cases e'; rw [d] at d'; cases d'
    refine ⟨o, cv, (hs.2 c hne).trans e, d, fun w hw hkz => ?_⟩
    refine xE1A1 (hcv w (hc z w hw hkz) hkz) fun val e1 e2 => ?_
    exact ⟨val, e1, e2.keep hkp nt⟩
  · by_cases q : b = env.locals
    · subst q; obtain ⟨o', es, ep, e', _⟩ := hn'; exact ⟨o', e'⟩
    · exact ⟨o, (hs.2 b q).trans eb⟩

theorem S_TryMX {X : XT C R env} {P : Fl → Loc → Sg → Prop} {x fn En fld : Str} {o : Expr} {name : Str} {args : List Expr} {ap p1 p2 p3 p4 cpos apos apos2 ep hpos pos : Pos} {pl : Sem Bool} {Cl f0 : Addr}
    (hRf : ∀ A, R.P A → A.frames = some [env]) (hf : env.frame = some env.locals) (hk : env.kindOf x = some .local) (hkf : env.kindOf fn = some .local) (hne : fn ≠ x) (hfn : loc fn = none)
    (hv : nsIn C.K mainGlobals En = some (some (.ref Cl))) (hE : newE C.K Cl f0) (hfl : fldE C.K Cl fld = true) (hkE : env.kindOf En = some .globalImplicit)
    (h : WE C R env loc (eval o env) (fun y σ₁ => ∃ a Cl' d g n f, y = .ref a ∧ σ₁ a = some (.inst Cl' d) ∧ σ₁ d = some (.ns g n) ∧ g name = none ∧ mthOk C.K Cl' name f = true ∧
      WL C R env loc (spliced (backTo cpos (starEach args env))) (fun xs σ₂ => ∀ o', (∃ es ep, o'.data = .dict es ep) → WX C R.P [env] f (.ref a :: xs) (fun y σ' => σ' env.locals = some (.raw o') ∧ P .next (setL loc x y) (fun b => if b = env.locals then none else σ' b))
        (fun a d Cl' σ₀ => Cl' = Cl ∧ σ₀ env.locals = some (.raw o') ∧ ∃ g n b, σ₀ d = some (.ns g n) ∧ g fld = some b ∧ P .next (setL loc x b) (lessS σ₀ env.locals a)) (upd σ₂ env.locals (.raw o'))) σ₁) σ)
    (he : methEq env o name ap cpos args pl := by rfl) (hplain : (backTo cpos (starEach args env)).any (·.1) = false := by rfl)
    (hs : swapsWith (.Call (.Attribute o name ap) args [] cpos) (some (.Name x p1)) apos.line env = pure false := by rfl)
    (hs2 : swapsWith (.Attribute (.Name fn p3) fld p4) (some (.Name x p2)) apos2.line env = pure false := by rfl)
    (hdE : (En == ("__debug__" : Str)) = false := by decide) (hdf : (fn == ("__debug__" : Str)) = false := by decide)
    (hat : eval (.Attribute (.Name fn p3) fld p4) env = (do
        let o ← eval (.Name fn p3) env
        standAt p4.atName
        let r ← holding [o] (getAttr o fld true)
        letTemporaryGo (.Name fn p3) o r
        pure r) := by with_unfolding_all rfl) :
    WS C R env X (exec (.Try [.Assign [.Name x p1] (.Call (.Attribute o name ap) args [] cpos) apos] [.ExceptHandler (some (.Name En ep)) (some fn) [.Assign [.Name x p2] (.Attribute (.Name fn p3) fld p4) apos2] hpos] [] [] pos) env) P loc σ := by
  intro A s Q E r a f k kx
  refine wpAny_Try_except (wpAny_execs_cons (wpAny_Assign_Name (wp_callMX (Q := fun v s₁ => _) r a f h he hplain (fun v y s₁ σ₁ e1 e2 e3 e4 => ?_) fun s₁ σ₁ o' e s' a1 f1 e3 eL hd hg => ?_) hs))
  · have f1 := f.step a e3
    refine wp_store e2 f1 (.inl hk) e1 fun s' a' f' st _ => ?_
    refine wpAny_execs_nil ?_
    exact wpAny_execs_nil (k _ _ s' _ σ₁ .next a' f' (e3.own.transO f1 st) e4)
  · refine Classical.byContradiction fun hG => ?_
    refine xE6A0 hg fun b Cl' t d s₀ σ₀ hg2 => ?_
    refine xE2A0 hg2 fun h' as hg3 => ?_
    refine xE0A8 hg3 fun q1 a0 st ex hn hq q2 has hg4 => ?_
    refine xE0A2 hg4 fun nt fly u => ?_
    refine xE0A2 hq fun q3 hL hq2 => ?_
    refine xE3A2 hq2 fun g n bv hdn hgb hP => ?_
    clear hg hg2 hg3 hg4 hq hq2
    subst q1 q3 q2
    have has' : ∀ c ∈ as, c = b ∨ (s₁.heap.get? c = none ∧ σ₀ c = none) ∨ c = env.locals := fun c hc => by
      rcases has c hc with q | q | q
      · exact .inl q
      · exact .inr (.inl q)
      · unfold framesOf at q
        rw [List.filterMap_cons, hf] at q
        rcases List.mem_cons.mp q with q | q
        · exact .inr (.inr q)
        · cases q
    refine hG ?_
    clear hG
    refine fly_note1 (s := { s₀ with heap := h' }) (hRf A r) hf fly fun h1 y1 u1 => ?_
    refine fly_flight (s := { s₀ with heap := h1 }) none y1 fun h2 y2 u2 => ?_
    refine wpAny_handleBy_cons (codeAny_handlers_test ?_) (by intro q; cases q)
    refine Classical.byContradiction fun hG => ?_
    refine xE0A4 (caught_state (h := h2) a1 f1 eL hd a0 st ex hn hL has' nt y2 ((u.trans u1).trans u2)) fun A2 F2 S2 ownA newA => ?_
    have G : h2.Ns env.globals C.mg := by rw [F2.glob]; exact C.top.g.keeps A2.keep
    refine xE3A5 (newE_of (C.kin.keeps A2.keep) hE) fun c mN oI hC hN hi T hff hfc => ?_
    refine xE4A2 y2.tr fun vs Tb oT ts hob hv1 _ => ?_
    refine hG ?_
    clear hG
    refine Calls.Name_function_global F2.kind hkE (Calls.loadGlobal_global (s := { s₀ with heap := h2 }) G (mg_of C.kin C.top.g hv) ?_) hdE
    refine wpAny_excMatches_sub_self hC hob rfl (T.hasType (by decide +kernel)) (codeAny_handlers_suite_as ?_)
    refine fly_flight (s := { s₀ with heap := h2 }) none y2 fun h3 y3 u3 => ?_
    refine Classical.byContradiction fun hG => ?_
    refine xE0A4 (caught_state (h := h3) a1 f1 eL hd a0 st ex hn hL has' nt y3 (((u.trans u1).trans u2).trans u3)) fun A3 F3 S3 _ _ => ?_
    refine xE4A1 y3.tr fun vs3 Tb3 oT3 ts3 hob3 _ => ?_
    refine hG ?_
    clear hG
    have hdne : d ≠ env.locals := fun q => by rw [q, hL] at hdn; cases hdn
    have hdnb : d ≠ b := fun q => by rw [q, ex] at hdn; cases hdn
    have hσb : lessS σ₀ env.locals b b = none := by unfold lessS; rw [if_pos rfl]; split <;> rfl
    have hσd : lessS σ₀ env.locals b d = some (.ns g n) := by unfold lessS; rw [if_neg hdne, if_neg hdnb]; exact hdn
    refine wp_store (s := { s₀ with heap := h3 }) A3 F3 (.inl hkf) (.ref b) fun s4 A4 F4 S4 _ => ?_
    have hob4 := S4.keep _ _ hob3 hσb ownA
    refine wpAny_execs_cons (wpAny_Assign_Name (PyProof.Rows.Attribute_any_ (wpAny_Name ?_ hdf) hat) hs2)
    refine Classical.byContradiction fun hG => ?_
    refine xE1A1 F4.vars fun m hm hmv => ?_
    refine xE1A1 (hmv fn (.ref b) (by simp [setL]) hkf) fun val e1 e2 => ?_
    refine hG ?_
    clear hG
    refine wpAny_loadName_local F4.kind hkf hm e1 ?_
    cases e2
    refine wp_fldE A4 hob4 rfl rfl rfl hσd hgb hfl fun v5 hr5 => ?_
    refine wp_store (s := { s4 with toks := s4.toks + 1 }) A4 F4 (.inl hk) hr5 fun s5 A5 F5 S5 _ => ?_
    refine wpAny_execs_nil ?_
    refine xE1A1 F5.vars fun m5 hm5 hv5 => ?_
    refine wpAny_nameGoes_keeps hkf hm5 (by rw [F5.kind]; rfl) fun h6 v6 hn6 hs6 => ?_
    have hl6 : ∀ z w, setL loc x bv z = some w → env.kindOf z = some .local → ∃ val, (fun y => if y = fn then v6 else m5 y) z = some val ∧ Rep s5.heap val w := fun z w hz hkz => by
      have hzf : z ≠ fn := fun q => by
        subst q
        unfold setL at hz
        rw [if_neg hne, hfn] at hz; cases hz
      obtain ⟨val, q1, q2⟩ := hv5 z w (by
        unfold setL at hz ⊢
        by_cases q : z = x
        · rw [if_pos q] at hz ⊢; exact hz
        · rw [if_neg q] at hz ⊢; rw [if_neg hzf]; exact hz) hkz
      exact ⟨val, by dsimp only; rw [if_neg hzf]; exact q1, q2⟩
    have hc6 : ∀ z w, setL loc x bv z = some w → env.kindOf z = some .cell ∨ env.kindOf z = some .free → setL (setL loc fn (.ref b)) x bv z = some w := fun z w hz hkz => by
      have hzf : z ≠ fn := fun q => by subst q; rcases hkz with q | q <;> rw [hkf] at q <;> cases q
      unfold setL at hz ⊢
      by_cases q : z = x
      · rw [if_pos q] at hz ⊢; exact hz
      · rw [if_neg q] at hz ⊢; rw [if_neg hzf]; exact hz
    obtain ⟨A6, F6, S6⟩ := Fo.anew (loc' := setL loc x bv) A5 F5 hm5 hn6 hs6 hl6 hc6 (s5.toks + 1)
    exact k _ _ _ _ _ .next A6 F6 (e3.own.trans (S3.trans (S4.trans ((Stp.toks (Own env) s4 _ (s4.toks + 1)).trans (S5.trans S6))))) hP
end
end Mine
end
section
set_option Elab.async false
set_option linter.unusedVariables false
namespace Mine
open PySem PySem.W

/-! ### how the compounds lie -/
noncomputable def wdK (κ : Nat) : Nat := if κ = 0 then 2 else κ
noncomputable def szK (κ : Nat) : Nat := if κ = 0 then 2 else κ + 1
noncomputable def ofK (κ : Nat) : Nat := if κ = 0 then 0 else 1
structure Lay where
  T : Nat
  kd : Nat → Nat
  s : Nat → Nat
noncomputable def Lay.nd (l : Lay) (j : Nat) : Cell := if l.kd j = 0 then (3, (l.s j : Int)) else (2, (l.s j : Int))
noncomputable def Lay.b (l : Lay) (j : Nat) : Nat := l.s j + ofK (l.kd j)
noncomputable def Lay.w (l : Lay) (j : Nat) : Nat := wdK (l.kd j)
structure LayOk (l : Lay) (n N : Nat) : Prop where
  t1 : 1 ≤ l.T
  t5 : l.T ≤ 5
  kd : ∀ j, j < l.T → l.kd j ≤ 3
  lo : ∀ j, j < n → l.T ≤ l.s j
  ord : ∀ j k, j < k → k < n → l.s j + szK (l.kd j) ≤ l.s k
  hi : ∀ j, j < n → l.s j + szK (l.kd j) ≤ N
theorem w_le (κ : Nat) : ofK κ + wdK κ = szK κ := by unfold ofK wdK szK; split <;> (first | lia | omega)
theorem Lay.apart {l : Lay} {n N : Nat} (h : LayOk l n N) {j k p q : Nat} (hj : j < n) (hk : k < n) (hp : p < l.w j) (hq : q < l.w k) (e : l.b j + p = l.b k + q) : j = k ∧ p = q := by
  have w1 := w_le (l.kd j)
  have w2 := w_le (l.kd k)
  unfold Lay.w at hp hq
  unfold Lay.b at e
  rcases Nat.lt_trichotomy j k with h1 | h1 | h1
  · have := h.ord j k h1 hk; (first | lia | omega)
  · subst h1; exact ⟨rfl, by (first | lia | omega)⟩
  · have := h.ord k j h1 hj; (first | lia | omega)
theorem Lay.head {l : Lay} {n N : Nat} (h : LayOk l n N) {j k p : Nat} (hj : j < n) (hk : k < n) (hp : p < l.w j) (h0 : l.kd k ≠ 0) : l.b j + p ≠ l.s k := by
  intro e
  have w1 := w_le (l.kd j)
  have w2 := w_le (l.kd k)
  unfold Lay.w at hp
  unfold Lay.b at e
  have o1 : ofK (l.kd k) = 1 := by unfold ofK; rw [if_neg h0]
  have z : 0 < szK (l.kd k) := by unfold szK; split <;> (first | lia | omega)
  rcases Nat.lt_trichotomy j k with h1 | h1 | h1
  · have := h.ord j k h1 hk; (first | lia | omega)
  · subst h1; (first | lia | omega)
  · have := h.ord k j h1 hj; (first | lia | omega)
/-- the heap of cells -/
structure HpB (l : Lay) (n N : Nat) (cells : List Cell) (dv : Nat → Cell) (av : Nat → Nat → Cell) : Prop where
  len : cells.length = N
  door : ∀ i, i < l.T → cells[i]? = some (dv i)
  head : ∀ j, j < n → l.kd j ≠ 0 → cells[l.s j]? = some (6, ((31 + l.kd j : Nat) : Int))
  args : ∀ j p, j < n → p < l.w j → cells[l.b j + p]? = some (av j p)
noncomputable def updA (av : Nat → Nat → Cell) (k p : Nat) (c : Cell) : Nat → Nat → Cell := fun j q => if j = k ∧ q = p then c else av j q
theorem getElem?_set' {α : Type} (l : List α) (i j : Nat) (x : α) (h : i < l.length) : (l.set i x)[j]? = if j = i then some x else l[j]? := by
  rw [List.getElem?_set]
  by_cases q : i = j
  · subst q; simp [h]
  · rw [if_neg q, if_neg (Ne.symm q)]
theorem HpB.setA {l : Lay} {n N : Nat} {cells : List Cell} {dv : Nat → Cell} {av : Nat → Nat → Cell} (h : HpB l n N cells dv av) (L : LayOk l n N) {k p : Nat} (hk : k < n) (hp : p < l.w k) (c : Cell) :
    HpB l n N (cells.set (l.b k + p) c) dv (updA av k p c) := by
  have w1 := w_le (l.kd k)
  have hb := L.hi k hk
  have hlo := L.lo k hk
  have hin : l.b k + p < cells.length := by rw [h.len]; unfold Lay.b; unfold Lay.w at hp; (first | lia | omega)
  refine ⟨by rw [List.length_set]; exact h.len, fun i hi => ?_, fun j hj h0 => ?_, fun j q hj hq => ?_⟩
  · rw [getElem?_set' _ _ _ _ hin, if_neg (by unfold Lay.b; (first | lia | omega))]; exact h.door i hi
  · rw [getElem?_set' _ _ _ _ hin, if_neg (fun e => Lay.head L hk hj hp h0 e.symm)]; exact h.head j hj h0
  · rw [getElem?_set' _ _ _ _ hin]
    unfold updA
    by_cases e : l.b j + q = l.b k + p
    · refine xE0A1 (Lay.apart L hj hk hq hp e) fun hr1_ hr2_ => ?_
      obtain rfl := hr1_
      obtain rfl := hr2_
      simp
    · rw [if_neg e, if_neg (fun z => e (by rw [z.1, z.2]))]; exact h.args j q hj hq
theorem HpB.setD {l : Lay} {n N : Nat} {cells : List Cell} {dv : Nat → Cell} {av : Nat → Nat → Cell} (h : HpB l n N cells dv av) (L : LayOk l n N) (hN : l.T ≤ N) {k : Nat} (hk : k < l.T) (c : Cell) :
    HpB l n N (cells.set k c) (fun i => if i = k then c else dv i) av := by
  have hin : k < cells.length := by rw [h.len]; (first | lia | omega)
  refine ⟨by rw [List.length_set]; exact h.len, fun i hi => ?_, fun j hj h0 => ?_, fun j q hj hq => ?_⟩
  · rw [getElem?_set' _ _ _ _ hin]
    by_cases e : i = k
    · subst e; simp
    · rw [if_neg e, if_neg e]; exact h.door i hi
  · have := L.lo j hj
    rw [getElem?_set' _ _ _ _ hin, if_neg (by (first | lia | omega))]; exact h.head j hj h0
  · have := L.lo j hj
    rw [getElem?_set' _ _ _ _ hin, if_neg (by unfold Lay.b; (first | lia | omega))]; exact h.args j q hj hq

/-! ### what a digit means -/
noncomputable def edR (l : Lay) (c j p : Nat) : Int := if c < l.T then (c : Int) else if c < 2 * l.T then ((c - l.T : Nat) : Int) else if c = 2 * l.T then -1 else if c = 2 * l.T + 1 then -2 else -3 - 10 * (j : Int) - p
noncomputable def edC (l : Lay) (c j p : Nat) : Cell := if c < l.T then l.nd c else if c < 2 * l.T then (0, ((c - l.T : Nat) : Int)) else if c = 2 * l.T then (4, 0) else if c = 2 * l.T + 1 then (5, 7) else (0, ((l.b j + p : Nat) : Int))
noncomputable def edT (l : Lay) (c j p : Nat) : Tgt := if c < l.T then .node c else if c < 2 * l.T then .node (c - l.T) else if c = 2 * l.T then .nil else if c = 2 * l.T + 1 then .num else .var ((l.b j + p : Nat) : Int)
end Mine
end
section
set_option Elab.async false
set_option linter.unusedVariables false
namespace Mine
open PySem PySem.W

/-! ### the results of the search -/
noncomputable def RI (g : Gr) (tv : Tgt → V) (t₀ : Tgt) : List Wk → List V → Prop
  | [], R => R = [tv t₀]
  | .ent t :: W, R => RI g tv t₀ W (R ++ [tv t])
  | .ext k :: W, R => ∃ pre, R = pre ++ (g.ch k).map tv ∧ RI g tv t₀ W (pre ++ [tv (.node k)])
theorem RI.ents {g : Gr} {tv : Tgt → V} {t₀ : Tgt} {W : List Wk} : ∀ {l : List Tgt} {R : List V}, RI g tv t₀ W (R ++ l.map tv) → RI g tv t₀ (l.map .ent ++ W) R
  | [], R, h => by simpa using h
  | t :: l, R, h => by
    show RI g tv t₀ (l.map .ent ++ W) (R ++ [tv t])
    exact RI.ents (by simpa using h)
theorem RI.enter {g : Gr} {tv : Tgt → V} {t₀ : Tgt} {W : List Wk} {R : List V} {k : Nat} (h : RI g tv t₀ (.ent (.node k) :: W) R) : RI g tv t₀ ((g.ch k).map .ent ++ .ext k :: W) R :=
  RI.ents ⟨R, rfl, h⟩
noncomputable def blk (g : Gr) (s : Int → Int) : Nat := ((List.range g.T).filter fun k => s (g.nd k).2 == 2).length
theorem blk_le (g : Gr) (s : Int → Int) : blk g s ≤ g.T := by unfold blk; exact Nat.le_trans (List.length_filter_le _ _) (by simp)
theorem blk_leave {g : Gr} {s : Int → Int} {k : Nat} (hk : k < g.T) (hs : s (g.nd k).2 = 1) : blk g s < blk g (fun i => if i = (g.nd k).2 then 2 else s i) := by
  unfold blk
  refine filter_lt _ _ _ (fun x _ hx => ?_) (List.mem_range.mpr hk) (by simp) (by simp [hs])
  dsimp only
  split
  · rfl
  · exact hx
theorem blk_enter {g : Gr} {s : Int → Int} {k : Nat} (hs : s (g.nd k).2 = 0) : blk g s ≤ blk g (fun i => if i = (g.nd k).2 then 1 else s i) := by
  unfold blk
  have key : ∀ l : List Nat, (l.filter fun j => s (g.nd j).2 == 2).length ≤ (l.filter fun j => (if (g.nd j).2 = (g.nd k).2 then (1 : Int) else s (g.nd j).2) == 2).length := by
    intro l
    induction l with
    | nil => simp
    | cons a l ih =>
      by_cases h : s (g.nd a).2 = 2
      · have h' : (if (g.nd a).2 = (g.nd k).2 then (1 : Int) else s (g.nd a).2) = 2 := by rw [if_neg (fun q => by rw [q, hs] at h; cases h)]; exact h
        rw [List.filter_cons_of_pos (by simpa using h), List.filter_cons_of_pos (by simpa using h')]
        simpa using ih
      · rw [List.filter_cons_of_neg (by simpa using h)]
        by_cases h' : (if (g.nd a).2 = (g.nd k).2 then (1 : Int) else s (g.nd a).2) = 2
        · rw [List.filter_cons_of_pos (by simpa using h')]; simp only [List.length_cons]; (first | lia | omega)
        · rw [List.filter_cons_of_neg (by simpa using h')]; exact ih
  exact key _
theorem DI.kids {g : Gr} {t₀ : Tgt} {k : Nat} {s : Int → Int} {W : List Wk} {path : List Nat} (h : DI g t₀ s (.ext k :: W) path) {j : Nat} (hj : .node j ∈ g.ch k) : s (g.nd j).2 = 2 := by
  rcases h.done.1 _ hj with q | q
  · exact q
  · cases q
noncomputable def Bd : Nat → Nat
  | 0 => 1
  | n + 1 => 3 * Bd n + 1
theorem Bd_pos (n : Nat) : 1 ≤ Bd n := by cases n <;> simp [Bd]
theorem Bd_mono {n m : Nat} (h : n ≤ m) : Bd n ≤ Bd m := by
  induction h with
  | refl => exact Nat.le_refl _
  | step _ ih => simp only [Bd]; (first | lia | omega)
theorem Bd_5 {n : Nat} (h : n ≤ 5) : Bd n ≤ 364 := Nat.le_trans (Bd_mono h) (by decide)
/-- the size of a target -/
noncomputable def szT (z : Nat → Nat) : Tgt → Nat
  | .node j => z j
  | _ => 1
theorem sum_le {z : Nat → Nat} {b : Nat} (hb : 1 ≤ b) : ∀ {l : List Tgt}, (∀ j, .node j ∈ l → z j ≤ b) → (l.map (szT z)).sum ≤ l.length * b
  | [], _ => by simp
  | t :: l, h => by
    have ih := sum_le (l := l) hb fun j hj => h j (.tail _ hj)
    have ht : szT z t ≤ b := by
      cases t with
      | node j => exact h j (.head _)
      | _ => exact hb
    simp only [List.map_cons, List.sum_cons, List.length_cons, Nat.add_mul, Nat.one_mul]
    (first | lia | omega)
end Mine
end
section
set_option Elab.async false
set_option linter.unusedVariables false
namespace Mine
open PySem PySem.W

/-- what a row's entry stands for -/
noncomputable def partV (tf : Int → Option V) (e : Int) : V := if e ≥ 0 then (tf e).getD .none else if e = -1 then .tup [.str "a", .int 0] else if e = -2 then .tup [.str "i", .int 7] else .tup [.str "v", .int (-3 - e)]
/-! ### the law's own trees -/
structure Rw where
  T : Nat
  R : Nat → List Int
  fk : Nat → Int
noncomputable def Rw.Ok (r : Rw) : Prop := ∀ k, k < r.T → ∀ e ∈ r.R k, e ≥ 0 → e.toNat < r.T
inductive AcR (r : Rw) : Nat → Prop
  | mk {k} : (∀ e ∈ r.R k, e ≥ 0 → AcR r e.toNat) → AcR r k
noncomputable def Rw.ready (r : Rw) (tf : Int → Option V) (k : Nat) : Prop := ∀ e ∈ r.R k, e ≥ 0 → (tf e).isSome = true
noncomputable def Rw.nodeV (r : Rw) (tf : Int → Option V) (k : Nat) : V := .tup [.str "s", .int (r.fk k), .tup ((r.R k).map (partV tf))]
noncomputable def Ext (tf tf' : Int → Option V) : Prop := ∀ i, (tf i).isSome = true → tf' i = tf i
theorem Ext.refl (tf : Int → Option V) : Ext tf tf := fun _ _ => rfl
theorem Ext.trans {a b c : Int → Option V} (x : Ext a b) (y : Ext b c) : Ext a c := fun i h => (y i (by rw [x i h]; exact h)).trans (x i h)
theorem Ext.some {tf tf' : Int → Option V} (x : Ext tf tf') {i : Int} (h : (tf i).isSome = true) : (tf' i).isSome = true := by rw [x i h]; exact h
structure UI (r : Rw) (tf : Int → Option V) : Prop where
  val : ∀ k, k < r.T → (tf k).isSome = true → r.ready tf k ∧ tf k = some (r.nodeV tf k)
  ac : ∀ k, k < r.T → (tf k).isSome = true → AcR r k
theorem partV_ext {tf tf' : Int → Option V} (x : Ext tf tf') {e : Int} (h : e ≥ 0 → (tf e).isSome = true) : partV tf' e = partV tf e := by
  unfold partV
  by_cases q : e ≥ 0
  · rw [if_pos q, if_pos q, x e (h q)]
  · rw [if_neg q, if_neg q]
theorem Rw.ready.ext {r : Rw} {tf tf' : Int → Option V} {k : Nat} (h : r.ready tf k) (x : Ext tf tf') : r.ready tf' k := fun e he h0 => x.some (h e he h0)
theorem nodeV_ext {r : Rw} {tf tf' : Int → Option V} {k : Nat} (h : r.ready tf k) (x : Ext tf tf') : r.nodeV tf' k = r.nodeV tf k := by
  unfold Rw.nodeV
  rw [List.map_congr_left fun e he => partV_ext x (h e he)]
noncomputable def addT (r : Rw) (tf : Int → Option V) (k : Nat) : Int → Option V := fun i => if i = (k : Int) then some (r.nodeV tf k) else tf i
theorem addT_ext {r : Rw} {tf : Int → Option V} {k : Nat} (h : tf k = none) : Ext tf (addT r tf k) := fun i hi => by
  unfold addT
  rw [if_neg (fun q => by rw [q, h] at hi; cases hi)]
theorem UI.add {r : Rw} {tf : Int → Option V} (h : UI r tf) (ok : r.Ok) {k : Nat} (hk : k < r.T) (hn : tf k = none) (hr : r.ready tf k) : UI r (addT r tf k) := by
  have x := addT_ext (r := r) hn
  have self : addT r tf k k = some (r.nodeV tf k) := by unfold addT; rw [if_pos rfl]
  have oth : ∀ j : Nat, j ≠ k → addT r tf k j = tf j := fun j hj => by unfold addT; rw [if_neg (by (first | lia | omega))]
  refine ⟨fun j hj hs => ?_, fun j hj hs => ?_⟩
  · by_cases q : j = k
    · subst q; exact ⟨hr.ext x, by rw [self, nodeV_ext hr x]⟩
    · rw [oth j q] at hs ⊢
      refine xE0A1 (h.val j hj hs) fun h1 h2 => ?_
      exact ⟨h1.ext x, by rw [nodeV_ext h1 x]; exact h2⟩
  · by_cases q : j = k
    · subst q
      refine .mk fun e he h0 => h.ac e.toNat (ok j hk e he h0) ?_
      have := hr e he h0
      rwa [show ((e.toNat : Nat) : Int) = e by (first | lia | omega)]
    · rw [oth j q] at hs; exact h.ac j hj hs
noncomputable def cntT (r : Rw) (tf : Int → Option V) : Nat := ((List.range r.T).filter fun (k : Nat) => (tf (k : Int)).isSome).length
noncomputable def Full (r : Rw) (tf : Int → Option V) : Prop := ∀ k, k < r.T → AcR r k → (tf k).isSome = true
theorem least {r : Rw} (ok : r.Ok) {tf : Int → Option V} {k : Nat} (h : AcR r k) : k < r.T → tf k = none → ∃ k1, k1 < r.T ∧ tf k1 = none ∧ r.ready tf k1 := by
  induction h with
  | @mk k f ih =>
    intro hk hn
    by_cases q : r.ready tf k
    · exact ⟨k, hk, hn, q⟩
    · unfold Rw.ready at q
      refine xE1A0 (Classical.not_forall.mp q) fun e q => ?_
      refine xE1A0 (Classical.not_forall.mp q) fun he q => ?_
      refine xE1A0 (Classical.not_forall.mp q) fun h0 q => ?_
      refine ih e he h0 (ok k hk e he h0) ?_
      rw [show ((e.toNat : Nat) : Int) = e by (first | lia | omega)]
      cases z : tf e with
      | none => rfl
      | some v => rw [z] at q; exact absurd rfl q
theorem round {r : Rw} (ok : r.Ok) {tf tf' : Int → Option V} (x : Ext tf tf') (h : ∀ j, j < r.T → r.ready tf j → (tf' j).isSome = true) {i : Nat} (hi : Full r tf ∨ i ≤ cntT r tf) : Full r tf' ∨ i + 1 ≤ cntT r tf' := by
  by_cases q : Full r tf
  · exact .inl fun k hk ha => x.some (q k hk ha)
  · have hi' := hi.resolve_left q
    unfold Full at q
    refine xE1A0 (Classical.not_forall.mp q) fun k q => ?_
    refine xE1A0 (Classical.not_forall.mp q) fun hk q => ?_
    refine xE1A0 (Classical.not_forall.mp q) fun ha q => ?_
    obtain ⟨k1, h1, h2, h3⟩ := least ok (tf := tf) ha hk (by cases z : tf k with
      | none => rfl
      | some v => rw [z] at q; exact absurd rfl q)
    right
    have : cntT r tf < cntT r tf' := by
      unfold cntT
      exact filter_lt _ _ _ (fun j _ hj => x.some hj) (List.mem_range.mpr h1) (h k1 h1 h3) (by rw [h2]; rfl)
    (first | lia | omega)
theorem full_end {r : Rw} {tf : Int → Option V} (h : Full r tf ∨ r.T ≤ cntT r tf) : Full r tf := by
  rcases h with h | h
  · exact h
  · intro k hk _
    have hl : ((List.range r.T).filter fun (k : Nat) => (tf (k : Int)).isSome).length = (List.range r.T).length := Nat.le_antisymm (List.length_filter_le _ _) (by rw [List.length_range]; exact h)
    exact List.length_filter_eq_length_iff.mp hl k (List.mem_range.mpr hk)

/-! ### what is reached -/
inductive RR (r : Rw) (root : Nat) : Nat → Prop
  | root : RR r root root
  | step {k e} : RR r root k → e ∈ r.R k → e ≥ 0 → RR r root e.toNat
theorem RR.lt {r : Rw} (ok : r.Ok) {root k : Nat} (hr : root < r.T) (h : RR r root k) : k < r.T := by
  induction h with
  | root => exact hr
  | step _ he h0 ih => exact ok _ ih _ he h0
structure SI (r : Rw) (root : Nat) (S : List Nat) : Prop where
  nd : S.Nodup
  has : root ∈ S
  rr : ∀ k ∈ S, RR r root k
theorem SI.add {r : Rw} {root : Nat} {S : List Nat} (h : SI r root S) {one k : Nat} (ho : one ∈ S) (hk : (k : Int) ∈ r.R one) (hn : k ∉ S) : SI r root (S ++ [k]) := by
  refine ⟨?_, List.mem_append_left _ h.has, fun j hj => ?_⟩
  · rw [List.nodup_append]
    exact ⟨h.nd, by simp, fun a ha b hb => by rw [List.mem_singleton.mp hb]; exact fun q => hn (q ▸ ha)⟩
  · rcases List.mem_append.mp hj with q | q
    · exact h.rr j q
    · rw [List.mem_singleton.mp q]
      have := RR.step (h.rr one ho) hk (by (first | lia | omega))
      simpa using this
theorem nodup_lt (T : Nat) : ∀ (l : List Nat), l.Nodup → (∀ x ∈ l, x < T) → l.length ≤ T := by
  induction T with
  | zero =>
    intro l _ h
    cases l with
    | nil => exact Nat.le_refl _
    | cons a l => exact absurd (h a (.head _)) (Nat.not_lt_zero _)
  | succ T ih =>
    intro l hn h
    by_cases q : T ∈ l
    · have h1 := ih (l.erase T) (hn.erase T) fun x hx => by
        have := (List.Nodup.mem_erase_iff hn).mp hx
        exact Nat.lt_of_le_of_ne (Nat.le_of_lt_succ (h x this.2)) this.1
      rw [List.length_erase_of_mem q] at h1
      exact Nat.le_add_of_sub_le h1
    · exact Nat.le_succ_of_le (ih l hn fun x hx => Nat.lt_of_le_of_ne (Nat.le_of_lt_succ (h x hx)) fun z => q (z ▸ hx))
noncomputable def FullS (r : Rw) (root : Nat) (S : List Nat) : Prop := ∀ k, RR r root k → k ∈ S
theorem out_edge {r : Rw} {root k : Nat} {S : List Nat} (hr : root ∈ S) (h : RR r root k) : k ∉ S → ∃ one ∈ S, ∃ e ∈ r.R one, e ≥ 0 ∧ e.toNat ∉ S := by
  induction h with
  | root => exact fun q => absurd hr q
  | @step k e hk he h0 ih =>
    intro q
    by_cases z : k ∈ S
    · exact ⟨k, z, e, he, h0, q⟩
    · exact ih z
theorem roundS {r : Rw} (ok : r.Ok) {root : Nat} (hr : root < r.T) {S S' X : List Nat} (h : SI r root S) (hX : S' = S ++ X) (hall : ∀ j, j < r.T → (∃ one ∈ S, (j : Int) ∈ r.R one) → j ∈ S') {i : Nat} (hi : FullS r root S ∨ i + 1 ≤ S.length) : FullS r root S' ∨ i + 1 + 1 ≤ S'.length := by
  by_cases q : FullS r root S
  · exact .inl fun k hk => by rw [hX]; exact List.mem_append_left _ (q k hk)
  · have hi' := hi.resolve_left q
    unfold FullS at q
    refine xE1A0 (Classical.not_forall.mp q) fun k q => ?_
    refine xE1A0 (Classical.not_forall.mp q) fun hk q => ?_
    refine xE1A1 (out_edge h.has hk q) fun one ho hz1_ => ?_
    refine xE1A2 hz1_ fun e he h0 hn => ?_
    clear hz1_
    have hot := (h.rr one ho).lt ok hr
    have := hall e.toNat (ok one hot e he h0) ⟨one, ho, by rw [show ((e.toNat : Nat) : Int) = e by (first | lia | omega)]; exact he⟩
    rw [hX] at this
    have hX1 : e.toNat ∈ X := (List.mem_append.mp this).resolve_left hn
    have : 1 ≤ X.length := List.length_pos_of_mem hX1
    right
    rw [hX, List.length_append]
    (first | lia | omega)
theorem fullS_end {r : Rw} (ok : r.Ok) {root : Nat} (hr : root < r.T) {S : List Nat} (h : SI r root S) (hi : FullS r root S ∨ r.T + 1 ≤ S.length) : FullS r root S := by
  rcases hi with hi | hi
  · exact hi
  · have := nodup_lt r.T S h.nd fun x hx => (h.rr x hx).lt ok hr
    (first | lia | omega)
end Mine
end
section
set_option Elab.async false
set_option linter.unusedVariables false
namespace Mine
open PySem PySem.W

noncomputable def spF (T : Nat) (kd : Nat → Nat) : Nat → Nat
  | 0 => T
  | j + 1 => spF T kd j + szK (kd j)
noncomputable def layF (T : Nat) (kd : Nat → Nat) : Lay := ⟨T, kd, spF T kd⟩
theorem spF_le (T : Nat) (kd : Nat → Nat) {j k : Nat} (h : j ≤ k) : spF T kd j ≤ spF T kd k := by
  induction h with
  | refl => exact Nat.le_refl _
  | step _ ih => simp only [spF]; (first | lia | omega)
theorem layF_ok {T : Nat} {kd : Nat → Nat} (h1 : 1 ≤ T) (h5 : T ≤ 5) (hk : ∀ j, j < T → kd j ≤ 3) (i : Nat) : LayOk (layF T kd) i (spF T kd i) :=
  ⟨h1, h5, hk, fun j _ => spF_le T kd (Nat.zero_le j), fun j k h _ => spF_le T kd (show j + 1 ≤ k from h), fun j h => spF_le T kd (show j + 1 ≤ i from h)⟩
theorem szK_le {κ : Nat} (h : κ ≤ 3) : szK κ ≤ 4 := by unfold szK; split <;> (first | lia | omega)
theorem spF_bound {T : Nat} {kd : Nat → Nat} (hk : ∀ j, j < T → kd j ≤ 3) : ∀ i, i ≤ T → spF T kd i ≤ T + 4 * i
  | 0, _ => Nat.le_refl _
  | i + 1, h => by
    have := spF_bound hk i (by (first | lia | omega))
    have := szK_le (hk i (by (first | lia | omega)))
    simp only [spF]; (first | lia | omega)
noncomputable def vars' (a n : Nat) : List Cell := (List.range n).map fun i => (0, ((a + i : Nat) : Int))
noncomputable def blockOf (κ n : Nat) : List Cell := if κ = 0 then vars' n 2 else (6, ((31 + κ : Nat) : Int)) :: vars' (n + 1) κ
theorem vars'_get (a n i : Nat) (h : i < n) : (vars' a n)[i]? = some (0, ((a + i : Nat) : Int)) := by
  unfold vars'
  rw [List.getElem?_map, List.getElem?_range h]; rfl
theorem vars'_len (a n : Nat) : (vars' a n).length = n := by simp [vars']
theorem blockOf_len (κ n : Nat) : (blockOf κ n).length = szK κ := by
  unfold blockOf szK
  split
  · simp [vars'_len]
  · simp [vars'_len]
theorem HpB.block {T : Nat} {kd : Nat → Nat} {i : Nat} {cells : List Cell} (h : HpB (layF T kd) i (spF T kd i) cells (fun i => (0, (i : Int))) (fun j p => (0, (((layF T kd).b j + p : Nat) : Int)))) :
    HpB (layF T kd) (i + 1) (spF T kd (i + 1)) (cells ++ blockOf (kd i) (spF T kd i)) (fun i => (0, (i : Int))) (fun j p => (0, (((layF T kd).b j + p : Nat) : Int))) := by
  have hl := h.len
  have hold : ∀ {k : Nat} {c : Cell}, cells[k]? = some c → (cells ++ blockOf (kd i) (spF T kd i))[k]? = some c := fun {k c} e => by
    rw [List.getElem?_append_left (List.getElem?_eq_some_iff.mp e).1]; exact e
  have hnew : ∀ k, (cells ++ blockOf (kd i) (spF T kd i))[spF T kd i + k]? = (blockOf (kd i) (spF T kd i))[k]? := fun k => by
    rw [List.getElem?_append_right (by (first | lia | omega)), hl]; congr 1; (first | lia | omega)
  refine ⟨by rw [List.length_append, blockOf_len, hl]; rfl, fun k hk => hold (h.door k hk), fun j hj h0 => ?_, fun j p hj hp => ?_⟩
  · by_cases q : j = i
    · subst q
      have := hnew 0
      rw [Nat.add_zero] at this
      show (cells ++ blockOf (kd j) (spF T kd j))[spF T kd j]? = _
      rw [this]
      unfold blockOf
      rw [if_neg (show ¬ kd j = 0 from h0)]; rfl
    · exact hold (h.head j (by (first | lia | omega)) h0)
  · by_cases q : j = i
    · subst q
      have hp' : p < wdK (kd j) := hp
      show (cells ++ blockOf (kd j) (spF T kd j))[spF T kd j + ofK (kd j) + p]? = some (0, ((spF T kd j + ofK (kd j) + p : Nat) : Int))
      rw [Nat.add_assoc, hnew]
      unfold blockOf ofK wdK at *
      by_cases h0 : kd j = 0
      · rw [if_pos h0, if_pos h0] at *
        rw [Nat.zero_add]; exact vars'_get _ _ _ hp'
      · rw [if_neg h0, if_neg h0] at *
        rw [Nat.add_comm 1 p, List.getElem?_cons_succ, vars'_get _ _ _ hp']
        congr 2
        (first | lia | omega)
    · exact hold (h.args j p (by (first | lia | omega)) hp)
end Mine
end
section
set_option Elab.async false
set_option maxRecDepth 100000
set_option linter.unusedVariables false
namespace Mine
open PySem PySem.W
noncomputable section
noncomputable def fdOf {K : Frag} {a : Addr} {oc od fd osl} (_ : K.lookup a = some ⟨oc, od, .func fd, osl⟩) : FuncData := fd
noncomputable def bodyOf {fd : FuncData} {b} (_ : fd.body = .stmts b) : List Stmt := b
noncomputable def P0 : Params := { strHash := fun _ => 0, shareClass := fun a => a, mergeTok := fun t => t, idOf := fun a => a, idOfShared := fun _ _ => 0, followText := fun _ => false, idOfImm := fun _ => 0 }
noncomputable abbrev KK (P : Params) : Frag := hd.heap_39 P

-- PrologError.__init__
noncomputable def fd48 : FuncData := fdOf (K := KK P0) (a := 48) rfl
noncomputable def bd48 : List Stmt := bodyOf (fd := fd48) rfl
theorem at48 (P : Params) : (KK P).lookup 48 = some ⟨.type "function", none, .func fd48, #[]⟩ := rfl
theorem cd48 (P : Params) : codeIn (KK P) fd48.code fd48.qualname = true := by kernel_rfl

-- fixed_atoms
noncomputable def fd60 : FuncData := fdOf (K := KK P0) (a := 60) rfl
noncomputable def bd60 : List Stmt := bodyOf (fd := fd60) rfl
theorem at60 (P : Params) : (KK P).lookup 60 = some ⟨.type "function", none, .func fd60, #[]⟩ := rfl
theorem cd60 (P : Params) : codeIn (KK P) fd60.code fd60.qualname = true := by kernel_rfl

-- fixed_functors
noncomputable def fd67 : FuncData := fdOf (K := KK P0) (a := 67) rfl
noncomputable def bd67 : List Stmt := bodyOf (fd := fd67) rfl
theorem at67 (P : Params) : (KK P).lookup 67 = some ⟨.type "function", none, .func fd67, #[]⟩ := rfl
theorem cd67 (P : Params) : codeIn (KK P) fd67.code fd67.qualname = true := by kernel_rfl

-- Symbols.__init__
noncomputable def fd81 : FuncData := fdOf (K := KK P0) (a := 81) rfl
noncomputable def bd81 : List Stmt := bodyOf (fd := fd81) rfl
theorem at81 (P : Params) : (KK P).lookup 81 = some ⟨.type "function", none, .func fd81, #[]⟩ := rfl
theorem cd81 (P : Params) : codeIn (KK P) fd81.code fd81.qualname = true := by kernel_rfl

-- Symbols.atom
noncomputable def fd88 : FuncData := fdOf (K := KK P0) (a := 88) rfl
noncomputable def bd88 : List Stmt := bodyOf (fd := fd88) rfl
theorem at88 (P : Params) : (KK P).lookup 88 = some ⟨.type "function", none, .func fd88, #[]⟩ := rfl
theorem cd88 (P : Params) : codeIn (KK P) fd88.code fd88.qualname = true := by kernel_rfl

-- Symbols.functor
noncomputable def fd102 : FuncData := fdOf (K := KK P0) (a := 102) rfl
noncomputable def bd102 : List Stmt := bodyOf (fd := fd102) rfl
theorem at102 (P : Params) : (KK P).lookup 102 = some ⟨.type "function", none, .func fd102, #[]⟩ := rfl
theorem cd102 (P : Params) : codeIn (KK P) fd102.code fd102.qualname = true := by kernel_rfl

-- Symbols.func
noncomputable def fd109 : FuncData := fdOf (K := KK P0) (a := 109) rfl
noncomputable def bd109 : List Stmt := bodyOf (fd := fd109) rfl
theorem at109 (P : Params) : (KK P).lookup 109 = some ⟨.type "function", none, .func fd109, #[]⟩ := rfl
theorem cd109 (P : Params) : codeIn (KK P) fd109.code fd109.qualname = true := by kernel_rfl

-- Symbols.arity
noncomputable def fd123 : FuncData := fdOf (K := KK P0) (a := 123) rfl
noncomputable def bd123 : List Stmt := bodyOf (fd := fd123) rfl
theorem at123 (P : Params) : (KK P).lookup 123 = some ⟨.type "function", none, .func fd123, #[]⟩ := rfl
theorem cd123 (P : Params) : codeIn (KK P) fd123.code fd123.qualname = true := by kernel_rfl

-- system_error
noncomputable def fd165 : FuncData := fdOf (K := KK P0) (a := 165) rfl
noncomputable def bd165 : List Stmt := bodyOf (fd := fd165) rfl
theorem at165 (P : Params) : (KK P).lookup 165 = some ⟨.type "function", none, .func fd165, #[]⟩ := rfl
theorem cd165 (P : Params) : codeIn (KK P) fd165.code fd165.qualname = true := by kernel_rfl

-- formal_of
noncomputable def fd172 : FuncData := fdOf (K := KK P0) (a := 172) rfl
noncomputable def bd172 : List Stmt := bodyOf (fd := fd172) rfl
theorem at172 (P : Params) : (KK P).lookup 172 = some ⟨.type "function", none, .func fd172, #[]⟩ := rfl
theorem cd172 (P : Params) : codeIn (KK P) fd172.code fd172.qualname = true := by kernel_rfl

-- resource_error
noncomputable def fd179 : FuncData := fdOf (K := KK P0) (a := 179) rfl
noncomputable def bd179 : List Stmt := bodyOf (fd := fd179) rfl
theorem at179 (P : Params) : (KK P).lookup 179 = some ⟨.type "function", none, .func fd179, #[]⟩ := rfl
theorem cd179 (P : Params) : codeIn (KK P) fd179.code fd179.qualname = true := by kernel_rfl

-- Cells.__init__
noncomputable def fd195 : FuncData := fdOf (K := KK P0) (a := 195) rfl
noncomputable def bd195 : List Stmt := bodyOf (fd := fd195) rfl
theorem at195 (P : Params) : (KK P).lookup 195 = some ⟨.type "function", none, .func fd195, #[]⟩ := rfl
theorem cd195 (P : Params) : codeIn (KK P) fd195.code fd195.qualname = true := by kernel_rfl

-- Cells.push
noncomputable def fd202 : FuncData := fdOf (K := KK P0) (a := 202) rfl
noncomputable def bd202 : List Stmt := bodyOf (fd := fd202) rfl
theorem at202 (P : Params) : (KK P).lookup 202 = some ⟨.type "function", none, .func fd202, #[]⟩ := rfl
theorem cd202 (P : Params) : codeIn (KK P) fd202.code fd202.qualname = true := by kernel_rfl

-- Cells.new_var
noncomputable def fd209 : FuncData := fdOf (K := KK P0) (a := 209) rfl
noncomputable def bd209 : List Stmt := bodyOf (fd := fd209) rfl
theorem at209 (P : Params) : (KK P).lookup 209 = some ⟨.type "function", none, .func fd209, #[]⟩ := rfl
theorem cd209 (P : Params) : codeIn (KK P) fd209.code fd209.qualname = true := by kernel_rfl

-- Cells.reserve
noncomputable def fd216 : FuncData := fdOf (K := KK P0) (a := 216) rfl
noncomputable def bd216 : List Stmt := bodyOf (fd := fd216) rfl
theorem at216 (P : Params) : (KK P).lookup 216 = some ⟨.type "function", none, .func fd216, #[]⟩ := rfl
theorem cd216 (P : Params) : codeIn (KK P) fd216.code fd216.qualname = true := by kernel_rfl

-- Cells.deref
noncomputable def fd230 : FuncData := fdOf (K := KK P0) (a := 230) rfl
noncomputable def bd230 : List Stmt := bodyOf (fd := fd230) rfl
theorem at230 (P : Params) : (KK P).lookup 230 = some ⟨.type "function", none, .func fd230, #[]⟩ := rfl
theorem cd230 (P : Params) : codeIn (KK P) fd230.code fd230.qualname = true := by kernel_rfl

-- Cells.bind
noncomputable def fd244 : FuncData := fdOf (K := KK P0) (a := 244) rfl
noncomputable def bd244 : List Stmt := bodyOf (fd := fd244) rfl
theorem at244 (P : Params) : (KK P).lookup 244 = some ⟨.type "function", none, .func fd244, #[]⟩ := rfl
theorem cd244 (P : Params) : codeIn (KK P) fd244.code fd244.qualname = true := by kernel_rfl

-- Cells.bind_pair
noncomputable def fd251 : FuncData := fdOf (K := KK P0) (a := 251) rfl
noncomputable def bd251 : List Stmt := bodyOf (fd := fd251) rfl
theorem at251 (P : Params) : (KK P).lookup 251 = some ⟨.type "function", none, .func fd251, #[]⟩ := rfl
theorem cd251 (P : Params) : codeIn (KK P) fd251.code fd251.qualname = true := by kernel_rfl

-- Cells.globalise
noncomputable def fd258 : FuncData := fdOf (K := KK P0) (a := 258) rfl
noncomputable def bd258 : List Stmt := bodyOf (fd := fd258) rfl
theorem at258 (P : Params) : (KK P).lookup 258 = some ⟨.type "function", none, .func fd258, #[]⟩ := rfl
theorem cd258 (P : Params) : codeIn (KK P) fd258.code fd258.qualname = true := by kernel_rfl

-- Cells.is_compound
noncomputable def fd286 : FuncData := fdOf (K := KK P0) (a := 286) rfl
noncomputable def bd286 : List Stmt := bodyOf (fd := fd286) rfl
theorem at286 (P : Params) : (KK P).lookup 286 = some ⟨.type "function", none, .func fd286, #[]⟩ := rfl
theorem cd286 (P : Params) : codeIn (KK P) fd286.code fd286.qualname = true := by kernel_rfl

-- Cells.functor_of
noncomputable def fd293 : FuncData := fdOf (K := KK P0) (a := 293) rfl
noncomputable def bd293 : List Stmt := bodyOf (fd := fd293) rfl
theorem at293 (P : Params) : (KK P).lookup 293 = some ⟨.type "function", none, .func fd293, #[]⟩ := rfl
theorem cd293 (P : Params) : codeIn (KK P) fd293.code fd293.qualname = true := by kernel_rfl

-- Cells.width
noncomputable def fd300 : FuncData := fdOf (K := KK P0) (a := 300) rfl
noncomputable def bd300 : List Stmt := bodyOf (fd := fd300) rfl
theorem at300 (P : Params) : (KK P).lookup 300 = some ⟨.type "function", none, .func fd300, #[]⟩ := rfl
theorem cd300 (P : Params) : codeIn (KK P) fd300.code fd300.qualname = true := by kernel_rfl

-- Cells.base
noncomputable def fd307 : FuncData := fdOf (K := KK P0) (a := 307) rfl
noncomputable def bd307 : List Stmt := bodyOf (fd := fd307) rfl
theorem at307 (P : Params) : (KK P).lookup 307 = some ⟨.type "function", none, .func fd307, #[]⟩ := rfl
theorem cd307 (P : Params) : codeIn (KK P) fd307.code fd307.qualname = true := by kernel_rfl

-- Cells.arg
noncomputable def fd314 : FuncData := fdOf (K := KK P0) (a := 314) rfl
noncomputable def bd314 : List Stmt := bodyOf (fd := fd314) rfl
theorem at314 (P : Params) : (KK P).lookup 314 = some ⟨.type "function", none, .func fd314, #[]⟩ := rfl
theorem cd314 (P : Params) : codeIn (KK P) fd314.code fd314.qualname = true := by kernel_rfl

-- Cells.new_block
noncomputable def fd321 : FuncData := fdOf (K := KK P0) (a := 321) rfl
noncomputable def bd321 : List Stmt := bodyOf (fd := fd321) rfl
theorem at321 (P : Params) : (KK P).lookup 321 = some ⟨.type "function", none, .func fd321, #[]⟩ := rfl
theorem cd321 (P : Params) : codeIn (KK P) fd321.code fd321.qualname = true := by kernel_rfl

-- Store.list_cells
noncomputable def fd357 : FuncData := fdOf (K := KK P0) (a := 357) rfl
noncomputable def bd357 : List Stmt := bodyOf (fd := fd357) rfl
theorem at357 (P : Params) : (KK P).lookup 357 = some ⟨.type "function", none, .func fd357, #[]⟩ := rfl
theorem cd357 (P : Params) : codeIn (KK P) fd357.code fd357.qualname = true := by kernel_rfl

-- Store.whole_size
noncomputable def fd371 : FuncData := fdOf (K := KK P0) (a := 371) rfl
noncomputable def bd371 : List Stmt := bodyOf (fd := fd371) rfl
theorem at371 (P : Params) : (KK P).lookup 371 = some ⟨.type "function", none, .func fd371, #[]⟩ := rfl
theorem cd371 (P : Params) : codeIn (KK P) fd371.code fd371.qualname = true := by kernel_rfl

-- Store.take_term
noncomputable def fd378 : FuncData := fdOf (K := KK P0) (a := 378) rfl
noncomputable def bd378 : List Stmt := bodyOf (fd := fd378) rfl
theorem at378 (P : Params) : (KK P).lookup 378 = some ⟨.type "function", none, .func fd378, #[]⟩ := rfl
theorem cd378 (P : Params) : codeIn (KK P) fd378.code fd378.qualname = true := by kernel_rfl

-- PairSet.__init__
noncomputable def fd397 : FuncData := fdOf (K := KK P0) (a := 397) rfl
noncomputable def bd397 : List Stmt := bodyOf (fd := fd397) rfl
theorem at397 (P : Params) : (KK P).lookup 397 = some ⟨.type "function", none, .func fd397, #[]⟩ := rfl
theorem cd397 (P : Params) : codeIn (KK P) fd397.code fd397.qualname = true := by kernel_rfl

-- push_arguments
noncomputable def fd418 : FuncData := fdOf (K := KK P0) (a := 418) rfl
noncomputable def bd418 : List Stmt := bodyOf (fd := fd418) rfl
theorem at418 (P : Params) : (KK P).lookup 418 = some ⟨.type "function", none, .func fd418, #[]⟩ := rfl
theorem cd418 (P : Params) : codeIn (KK P) fd418.code fd418.qualname = true := by kernel_rfl

-- is_variable
noncomputable def fd439 : FuncData := fdOf (K := KK P0) (a := 439) rfl
noncomputable def bd439 : List Stmt := bodyOf (fd := fd439) rfl
theorem at439 (P : Params) : (KK P).lookup 439 = some ⟨.type "function", none, .func fd439, #[]⟩ := rfl
theorem cd439 (P : Params) : codeIn (KK P) fd439.code fd439.qualname = true := by kernel_rfl

-- unify
noncomputable def fd446 : FuncData := fdOf (K := KK P0) (a := 446) rfl
noncomputable def bd446 : List Stmt := bodyOf (fd := fd446) rfl
theorem at446 (P : Params) : (KK P).lookup 446 = some ⟨.type "function", none, .func fd446, #[]⟩ := rfl
theorem cd446 (P : Params) : codeIn (KK P) fd446.code fd446.qualname = true := by kernel_rfl

-- bind_checked
noncomputable def fd453 : FuncData := fdOf (K := KK P0) (a := 453) rfl
noncomputable def bd453 : List Stmt := bodyOf (fd := fd453) rfl
theorem at453 (P : Params) : (KK P).lookup 453 = some ⟨.type "function", none, .func fd453, #[]⟩ := rfl
theorem cd453 (P : Params) : codeIn (KK P) fd453.code fd453.qualname = true := by kernel_rfl

-- ground
noncomputable def fd467 : FuncData := fdOf (K := KK P0) (a := 467) rfl
noncomputable def bd467 : List Stmt := bodyOf (fd := fd467) rfl
theorem at467 (P : Params) : (KK P).lookup 467 = some ⟨.type "function", none, .func fd467, #[]⟩ := rfl
theorem cd467 (P : Params) : codeIn (KK P) fd467.code fd467.qualname = true := by kernel_rfl

-- pred_is_list
noncomputable def fd475 : FuncData := fdOf (K := KK P0) (a := 475) rfl
noncomputable def bd475 : List Stmt := bodyOf (fd := fd475) rfl
theorem at475 (P : Params) : (KK P).lookup 475 = some ⟨.type "function", none, .func fd475, #[]⟩ := rfl
theorem cd475 (P : Params) : codeIn (KK P) fd475.code fd475.qualname = true := by kernel_rfl

-- pred_ground
noncomputable def fd482 : FuncData := fdOf (K := KK P0) (a := 482) rfl
noncomputable def bd482 : List Stmt := bodyOf (fd := fd482) rfl
theorem at482 (P : Params) : (KK P).lookup 482 = some ⟨.type "function", none, .func fd482, #[]⟩ := rfl
theorem cd482 (P : Params) : codeIn (KK P) fd482.code fd482.qualname = true := by kernel_rfl

-- pred_acyclic
noncomputable def fd489 : FuncData := fdOf (K := KK P0) (a := 489) rfl
noncomputable def bd489 : List Stmt := bodyOf (fd := fd489) rfl
theorem at489 (P : Params) : (KK P).lookup 489 = some ⟨.type "function", none, .func fd489, #[]⟩ := rfl
theorem cd489 (P : Params) : codeIn (KK P) fd489.code fd489.qualname = true := by kernel_rfl

-- Areas.__init__
noncomputable def fd504 : FuncData := fdOf (K := KK P0) (a := 504) rfl
noncomputable def bd504 : List Stmt := bodyOf (fd := fd504) rfl
theorem at504 (P : Params) : (KK P).lookup 504 = some ⟨.type "function", none, .func fd504, #[]⟩ := rfl
theorem cd504 (P : Params) : codeIn (KK P) fd504.code fd504.qualname = true := by kernel_rfl

-- Areas.reset
noncomputable def fd511 : FuncData := fdOf (K := KK P0) (a := 511) rfl
noncomputable def bd511 : List Stmt := bodyOf (fd := fd511) rfl
theorem at511 (P : Params) : (KK P).lookup 511 = some ⟨.type "function", none, .func fd511, #[]⟩ := rfl
theorem cd511 (P : Params) : codeIn (KK P) fd511.code fd511.qualname = true := by kernel_rfl

-- Areas.set_x
noncomputable def fd518 : FuncData := fdOf (K := KK P0) (a := 518) rfl
noncomputable def bd518 : List Stmt := bodyOf (fd := fd518) rfl
theorem at518 (P : Params) : (KK P).lookup 518 = some ⟨.type "function", none, .func fd518, #[]⟩ := rfl
theorem cd518 (P : Params) : codeIn (KK P) fd518.code fd518.qualname = true := by kernel_rfl

-- Areas.set_arguments
noncomputable def fd525 : FuncData := fdOf (K := KK P0) (a := 525) rfl
noncomputable def bd525 : List Stmt := bodyOf (fd := fd525) rfl
theorem at525 (P : Params) : (KK P).lookup 525 = some ⟨.type "function", none, .func fd525, #[]⟩ := rfl
theorem cd525 (P : Params) : codeIn (KK P) fd525.code fd525.qualname = true := by kernel_rfl

-- Areas.arg
noncomputable def fd532 : FuncData := fdOf (K := KK P0) (a := 532) rfl
noncomputable def bd532 : List Stmt := bodyOf (fd := fd532) rfl
theorem at532 (P : Params) : (KK P).lookup 532 = some ⟨.type "function", none, .func fd532, #[]⟩ := rfl
theorem cd532 (P : Params) : codeIn (KK P) fd532.code fd532.qualname = true := by kernel_rfl

-- Areas.unify
noncomputable def fd539 : FuncData := fdOf (K := KK P0) (a := 539) rfl
noncomputable def bd539 : List Stmt := bodyOf (fd := fd539) rfl
theorem at539 (P : Params) : (KK P).lookup 539 = some ⟨.type "function", none, .func fd539, #[]⟩ := rfl
theorem cd539 (P : Params) : codeIn (KK P) fd539.code fd539.qualname = true := by kernel_rfl

-- _law_digit
noncomputable def fd658 : FuncData := fdOf (K := KK P0) (a := 658) rfl
noncomputable def bd658 : List Stmt := bodyOf (fd := fd658) rfl
theorem at658 (P : Params) : (KK P).lookup 658 = some ⟨.type "function", none, .func fd658, #[]⟩ := rfl
theorem cd658 (P : Params) : codeIn (KK P) fd658.code fd658.qualname = true := by kernel_rfl

-- _law_edges
noncomputable def fd665 : FuncData := fdOf (K := KK P0) (a := 665) rfl
noncomputable def bd665 : List Stmt := bodyOf (fd := fd665) rfl
theorem at665 (P : Params) : (KK P).lookup 665 = some ⟨.type "function", none, .func fd665, #[]⟩ := rfl
theorem cd665 (P : Params) : codeIn (KK P) fd665.code fd665.qualname = true := by kernel_rfl

-- _law_part
noncomputable def fd672 : FuncData := fdOf (K := KK P0) (a := 672) rfl
noncomputable def bd672 : List Stmt := bodyOf (fd := fd672) rfl
theorem at672 (P : Params) : (KK P).lookup 672 = some ⟨.type "function", none, .func fd672, #[]⟩ := rfl
theorem cd672 (P : Params) : codeIn (KK P) fd672.code fd672.qualname = true := by kernel_rfl

-- _law_unfolded
noncomputable def fd677 : FuncData := fdOf (K := KK P0) (a := 677) rfl
noncomputable def bd677 : List Stmt := bodyOf (fd := fd677) rfl
theorem at677 (P : Params) : (KK P).lookup 677 = some ⟨.type "function", none, .func fd677, #[]⟩ := rfl
theorem cd677 (P : Params) : codeIn (KK P) fd677.code fd677.qualname = true := by kernel_rfl

-- _law_reached
noncomputable def fd682 : FuncData := fdOf (K := KK P0) (a := 682) rfl
noncomputable def bd682 : List Stmt := bodyOf (fd := fd682) rfl
theorem at682 (P : Params) : (KK P).lookup 682 = some ⟨.type "function", none, .func fd682, #[]⟩ := rfl
theorem cd682 (P : Params) : codeIn (KK P) fd682.code fd682.qualname = true := by kernel_rfl

end
end Mine
end
section
set_option maxRecDepth 100000
set_option maxHeartbeats 4000000
namespace Mine
open PySem PySem.W
noncomputable section

/-! ### what the vc needs -/
noncomputable def gInt (K : Frag) (x : Str) : Option Int := match nsIn K mainGlobals x with | some (some (.int i _)) => some i | _ => none
theorem W_NameI {C : Cx} {R : Rm} {env : Env} {loc : Loc} {σ : Sg} {x : Str} {i : Int} {pos : Pos} {P : V → Sg → Prop} (hv : gInt C.K x = some i) (hk : env.kindOf x = some .globalImplicit) (h : P (.int i) σ)
    (hd : (x == ("__debug__" : Str)) = false := by decide) : WE C R env loc (eval (.Name x pos) env) P σ := by
  unfold gInt at hv
  cases e : nsIn C.K mainGlobals x with
  | none => rw [e] at hv; cases hv
  | some o =>
    rw [e] at hv
    cases o with
    | none => cases hv
    | some w =>
      cases w with
      | int j t => cases hv; exact W_NameG e (fun _ _ => .int _ _) hk h hd
      | _ => cases hv
theorem WC.use {C : Cx} {k m : Nat} {f : Addr} {args : List V} {P P' : V → Sg → Prop} {σ : Sg} (h : WC C (lv k).P f args P σ) (hm : k ≤ m) (hp : ∀ x s, P x s → P' x s) : WC C (lv m).P f args P' σ :=
  fun A s Q E vals r a rv q => h A s Q E vals (lv_mono r hm) a rv fun v x s' σ' e1 e2 e3 e4 => q v x s' σ' e1 e2 e3 (hp _ _ e4)
theorem WC.useV {C : Cx} {k m : Nat} {f : Addr} {args : List V} {v : V} {τ : Sg} {P : V → Sg → Prop} {σ : Sg} (h : WC C (lv k).P f args (fun x s => x = v ∧ s = τ) σ) (hm : k ≤ m) (hp : P v τ) : WC C (lv m).P f args P σ :=
  h.use hm fun x s e => e.1.symm ▸ e.2.symm ▸ hp
theorem le_big {a b c : Nat} (h : a < b) (q : Nat.ble b c = true) : a ≤ c := Nat.le_trans (Nat.le_of_lt h) (Nat.le_of_ble_eq_true q)
theorem lt_big {a b c : Nat} (h : a < b) (q : Nat.ble b c = true) : a < c := Nat.lt_of_lt_of_le h (Nat.le_of_ble_eq_true q)
theorem W_NameL {C : Cx} {R : Rm} {env : Env} {loc : Loc} {σ : Sg} {x : Str} {v : V} {pos : Pos} {P : V → Sg → Prop} (hv : loc x = some v) (hk : env.kindOf x = some .local) (h : P v σ)
    (hd : (x == ("__debug__" : Str)) = false := by decide) : WE C R env loc (eval (.Name x pos) env) P σ := W_Name (W_load hv hk h) hd
theorem upd_upd (σ : Sg) (a : Addr) (o o' : AO) : upd (upd σ a o) a o' = upd σ a o' := by
  funext b
  by_cases q : b = a
  · subst q; rw [upd_same, upd_same]
  · rw [upd_ne _ _ q, upd_ne _ _ q, upd_ne _ _ q]
theorem KS_s {C : Cx} {τ : Sg} {name : Str} {y : V} {P : Sg → Prop} {a Cl d : Addr} {g : Str → Option V} {n : Nat} (e1 : upd τ d (.ns g n) a = some (.inst Cl d)) (e3 : Nat.ble (n + 1) 500 = true) (e4 : stoOk C.K Cl name = true) (h : P (upd τ d (.ns (setF g name y) (n + 1)))) : KS C name y P (.ref a) (upd τ d (.ns g n)) :=
  KS_i e1 (upd_same _ _ _) e3 e4 (by rw [upd_upd]; exact h)
theorem upd_id {σ : Sg} {a : Addr} {o : AO} (h : σ a = some o) : upd σ a o = σ := by
  funext b
  by_cases q : b = a
  · subst q; rw [upd_same, h]
  · rw [upd_ne _ _ q]
theorem upd_comm (σ : Sg) {a b : Addr} (h : a ≠ b) (o p : AO) : upd (upd σ a o) b p = upd (upd σ b p) a o := by
  funext c
  by_cases q : c = a
  · subst q; rw [upd_ne _ _ h, upd_same, upd_same]
  · by_cases q' : c = b
    · subst q'; rw [upd_same, upd_ne _ _ q, upd_same]
    · rw [upd_ne _ _ q', upd_ne _ _ q, upd_ne _ _ q, upd_ne _ _ q']
theorem upd_look {σ : Sg} {a b : Addr} {o : Option AO} {o' : AO} (h : b ≠ a) (e : σ b = o) : upd σ a o' b = o := by rw [upd_ne _ _ h]; exact e
theorem ne_fresh {σ : Sg} {a b : Addr} {o : AO} (ha : σ a = none) (hb : σ b = some o) : b ≠ a := fun q => by rw [q, ha] at hb; cases hb
theorem ite_t {p q : Prop} {d : Decidable (true = true)} (h : p) : @ite _ (true = true) d p q := by rwa [if_pos rfl]
theorem ite_f {p q : Prop} {d : Decidable (false = true)} (h : q) : @ite _ (false = true) d p q := by rwa [if_neg Bool.false_ne_true]

theorem kd {fd : FuncData} {L f : Addr} {x : Str} {k : NameKind} (h : fd.scope.names.lookup x = some k) : (callEnv fd L f).kindOf x = some k := h
theorem kdC {fd : FuncData} {L f : Addr} {x : Str} {k : NameKind} (h : fd.scope.names.lookup x = some k) : (callEnvC fd L f).kindOf x = some k := h
theorem WC_def0 {C : Cx} {σ : Sg} {f : Addr} {oc : Value} {od : Option Addr} {osl : Array (Option Value)} {fd : FuncData} {body : List Stmt} {args : List V} {names : List Str} {P : V → Sg → Prop} {n : Nat}
    (hK : C.K.lookup f = some ⟨oc, od, .func fd, osl⟩) (hcd : codeIn C.K fd.code fd.qualname = true) (hbody : fd.body = .stmts body)
    (hg : fd.globals = mainGlobals) (hbi : fd.builtins = builtinsNs) (hcl : fd.closure = []) (hb : BindF C.K fd names args.length [])
    (hsc : fd.scope.names.all (fun x => x.2 != .cell && x.2 != .free) = true) (hloc : (names.all fun x => decide (fd.scope.names.lookup x = some .local)) = true)
    (h : ∀ L, σ L = none → ∀ Qp : V → Sg → Prop, (∀ x s, P x s → Qp x s) → WS C (lv n) (callEnv fd L f) (.no ..) (execs body (callEnv fd L f)) (Rq Qp) (locOf names args) σ)
    (hco : fd.scope.isCoroutine = false := by rfl) (hgen : fd.scope.isGenerator = false := by rfl) (hk : fd.scope.kind = .function := by rfl) :
    WC C (lv (n + 1)).P f args P σ :=
  WC_def (da := []) (lv (n + 1)).P (fun _ h => h) hK hcd hbody hg hbi hcl hb (fun _ => .nil) hsc hloc (fun L hL => by rw [List.append_nil]; exact h L hL) hco hgen hk
noncomputable def fnOk (fd : FuncData) (names : List Str) : Bool := fd.scope.names.all (fun x => x.2 != .cell && x.2 != .free) && names.all fun x => decide (fd.scope.names.lookup x = some .local)
theorem WC_def0K {C : Cx} {σ : Sg} {f : Addr} {fd : FuncData} {body : List Stmt} {args : List V} {names : List Str} {P : V → Sg → Prop} {n : Nat} (hK : C.K = KK C.w.params)
    (ha : (KK C.w.params).lookup f = some ⟨.type "function", none, .func fd, #[]⟩) (hcd : codeIn (KK C.w.params) fd.code fd.qualname = true) (hbody : fd.body = .stmts body)
    (hg : fd.globals = mainGlobals) (hbi : fd.builtins = builtinsNs) (hcl : fd.closure = []) (hb : BindF C.K fd names args.length []) (hs : fnOk fd names = true)
    (h : ∀ L, σ L = none → ∀ Qp : V → Sg → Prop, (∀ x s, P x s → Qp x s) → WS C (lv n) (callEnv fd L f) (.no ..) (execs body (callEnv fd L f)) (Rq Qp) (locOf names args) σ)
    (hco : fd.scope.isCoroutine = false := by rfl) (hgen : fd.scope.isGenerator = false := by rfl) (hk : fd.scope.kind = .function := by rfl) :
    WC C (lv (n + 1)).P f args P σ :=
  WC_def0 (by rw [hK]; exact ha) (by rw [hK]; exact hcd) hbody hg hbi hcl hb (Bool.and_eq_true_iff.mp hs).1 (Bool.and_eq_true_iff.mp hs).2 h hco hgen hk
theorem lookup_app {x n : Str} {a : V} : ∀ l : List (Str × V), ((l ++ [(n, a)]).lookup x) = (l.lookup x).or (if x = n then some a else none)
  | [] => by
    rw [List.nil_append, List.lookup_cons]
    cases hb : x == n with
    | true => have := eq_of_beq hb; subst this; simp
    | false => have : x ≠ n := by simpa using hb
               simp [this]
  | p :: l => by
    rw [List.cons_append, List.lookup_cons, List.lookup_cons, lookup_app l]
    cases x == p.1 <;> rfl
theorem locOf_cons (n : Str) (ns : List Str) (a : V) (as : List V) (x : Str) : locOf (n :: ns) (a :: as) x = (locOf ns as x).or (if x = n then some a else none) := by
  unfold locOf
  rw [List.zip_cons_cons, List.reverse_cons, lookup_app]
theorem locOf_skip {n : Str} {ns : List Str} {a v : V} {as : List V} {x : Str} (h : locOf ns as x = some v) : locOf (n :: ns) (a :: as) x = some v := by rw [locOf_cons, h]; rfl
theorem locOf_none {x : Str} : ∀ {ns : List Str} {as : List V}, ns.all (fun y => x != y) = true → locOf ns as x = none
  | [], _, _ => rfl
  | _ :: _, [], _ => rfl
  | n :: ns, a :: as, h => by
    simp only [List.all_cons, Bool.and_eq_true, bne_iff_ne] at h
    rw [locOf_cons, locOf_none h.2, if_neg h.1]; rfl
theorem locOf_hit {n : Str} {ns : List Str} {a : V} {as : List V} (h : ns.all (fun y => n != y) = true) : locOf (n :: ns) (a :: as) n = some a := by rw [locOf_cons, locOf_none h, if_pos rfl]; rfl
theorem setL_same (loc : Loc) (x : Str) (v : V) : setL loc x v x = some v := by simp [setL]
theorem setL_ne {loc : Loc} {x y : Str} {v : V} {w : Option V} (h : (y == x) = false) (e : loc y = w) : setL loc x v y = w := by unfold setL; rw [if_neg (by simpa using h)]; exact e

theorem len_s {α : Type} {n : Nat} {vs : List α} (h : vs.length = n + 1) : ∃ a r, vs = a :: r ∧ r.length = n := by
  cases vs with
  | nil => cases h
  | cons a r => exact ⟨a, r, rfl, Nat.succ.inj h⟩
theorem len1 {α : Type} {vs : List α} (h : vs.length = 1) : ∃ a, vs = [a] := by obtain ⟨a, r, rfl, q⟩ := len_s h; obtain rfl := List.eq_nil_of_length_eq_zero q; exact ⟨a, rfl⟩
theorem len2 {α : Type} {vs : List α} (h : vs.length = 2) : ∃ a b, vs = [a, b] := by obtain ⟨a, r, rfl, q⟩ := len_s h; obtain ⟨b, rfl⟩ := len1 q; exact ⟨a, b, rfl⟩
theorem len3 {α : Type} {vs : List α} (h : vs.length = 3) : ∃ a b c, vs = [a, b, c] := by obtain ⟨a, r, rfl, q⟩ := len_s h; obtain ⟨b, c, rfl⟩ := len2 q; exact ⟨a, b, c, rfl⟩
theorem len4 {α : Type} {vs : List α} (h : vs.length = 4) : ∃ a b c d, vs = [a, b, c, d] := by obtain ⟨a, r, rfl, q⟩ := len_s h; obtain ⟨b, c, d, rfl⟩ := len3 q; exact ⟨a, b, c, d, rfl⟩
theorem len5 {α : Type} {vs : List α} (h : vs.length = 5) : ∃ a b c d e, vs = [a, b, c, d, e] := by obtain ⟨a, r, rfl, q⟩ := len_s h; obtain ⟨b, c, d, e, rfl⟩ := len4 q; exact ⟨a, b, c, d, e, rfl⟩
theorem len6 {α : Type} {vs : List α} (h : vs.length = 6) : ∃ a b c d e f, vs = [a, b, c, d, e, f] := by obtain ⟨a, r, rfl, q⟩ := len_s h; obtain ⟨b, c, d, e, f, rfl⟩ := len5 q; exact ⟨a, b, c, d, e, f, rfl⟩
theorem BindF_1 {K : Frag} {fd : FuncData} {names : List Str} (h : ∀ a, bindArgs fd ⟨[a], []⟩ = pure (names.zip [a])) : BindF K fd names 1 [] := fun s vals _ hl => by
  refine xE1A0 (len1 hl) fun a hr1_ => ?_
  obtain rfl := hr1_
  exact .of_eq (h a)
theorem BindF_2 {K : Frag} {fd : FuncData} {names : List Str} (h : ∀ a b, bindArgs fd ⟨[a, b], []⟩ = pure (names.zip [a, b])) : BindF K fd names 2 [] := fun s vals _ hl => by
  refine xE2A0 (len2 hl) fun a b hr2_ => ?_
  obtain rfl := hr2_
  exact .of_eq (h a b)
theorem BindF_3 {K : Frag} {fd : FuncData} {names : List Str} (h : ∀ a b c, bindArgs fd ⟨[a, b, c], []⟩ = pure (names.zip [a, b, c])) : BindF K fd names 3 [] := fun s vals _ hl => by
  refine xE3A0 (len3 hl) fun a b c hr3_ => ?_
  obtain rfl := hr3_
  exact .of_eq (h a b c)
theorem BindF_4 {K : Frag} {fd : FuncData} {names : List Str} (h : ∀ a b c d, bindArgs fd ⟨[a, b, c, d], []⟩ = pure (names.zip [a, b, c, d])) : BindF K fd names 4 [] := fun s vals _ hl => by
  refine xE4A0 (len4 hl) fun a b c d hr4_ => ?_
  obtain rfl := hr4_
  exact .of_eq (h a b c d)

noncomputable def fTab : List (Addr × List Str) := [(381, ["symbols", "max_heap", "heap", "stack", "trail", "hb", "bb"]), (154, ["texts", "atom_numbers", "functors", "functor_numbers"]), (407, ["span", "met"]), (647, ["symbols", "code", "max_heap", "occurs", "max_bits", "store", "x", "p", "cp", "e", "b", "b0", "mode", "s", "guard", "roots", "bags", "collect_wanted"])]
noncomputable def inTab (c : Addr) (n : Str) : Bool := fTab.any fun p => p.1 == c && p.2.any fun m => m == n
theorem inTab_of {f : Addr → Str → Bool} (h : fTab.all (fun p => p.2.all fun n => f p.1 n) = true) {c : Addr} {n : Str} (q : inTab c n = true) : f c n = true := by
  obtain ⟨p, hp, q⟩ := List.any_eq_true.mp q
  obtain ⟨q1, q2⟩ := Bool.and_eq_true_iff.mp q
  obtain ⟨m, hm, q3⟩ := List.any_eq_true.mp q2
  obtain rfl := eq_of_beq q1
  obtain rfl := eq_of_beq q3
  exact List.all_eq_true.mp (List.all_eq_true.mp h p hp) m hm
section
variable {C : Cx} (hK : C.K = KK C.w.params)
include hK
theorem g_REF : gInt C.K "REF" = some 0 := by rw [hK]; kernel_rfl
theorem g_SRF : gInt C.K "SRF" = some 1 := by rw [hK]; kernel_rfl
theorem g_STR : gInt C.K "STR" = some 2 := by rw [hK]; kernel_rfl
theorem g_LIS : gInt C.K "LIS" = some 3 := by rw [hK]; kernel_rfl
theorem g_CON : gInt C.K "CON" = some 4 := by rw [hK]; kernel_rfl
theorem g_INT : gInt C.K "INT" = some 5 := by rw [hK]; kernel_rfl
theorem g_FUN : gInt C.K "FUN" = some 6 := by rw [hK]; kernel_rfl
theorem g_VISIT : gInt C.K "VISIT" = some 0 := by rw [hK]; kernel_rfl
theorem g_BUILD : gInt C.K "BUILD" = some 1 := by rw [hK]; kernel_rfl
theorem g_A_NIL : gInt C.K "A_NIL" = some 0 := by rw [hK]; kernel_rfl
theorem g_A_SYSTEM : gInt C.K "A_SYSTEM" = some 25 := by rw [hK]; kernel_rfl
theorem g_F_DOT : gInt C.K "F_DOT" = some 0 := by rw [hK]; kernel_rfl
theorem g_F_ERROR : gInt C.K "F_ERROR" = some 16 := by rw [hK]; kernel_rfl
theorem fAll : fTab.all (fun p => p.2.all fun n => fldOk C.K p.1 n && stoOk C.K p.1 n) = true := by rw [hK]; kernel_rfl
theorem f_of {c : Addr} {n : Str} (q : inTab c n = true) : fldOk C.K c n = true := (Bool.and_eq_true_iff.mp (inTab_of (f := fun c n => fldOk C.K c n && stoOk C.K c n) (fAll hK) q)).1
theorem s_of {c : Addr} {n : Str} (q : inTab c n = true) : stoOk C.K c n = true := (Bool.and_eq_true_iff.mp (inTab_of (f := fun c n => fldOk C.K c n && stoOk C.K c n) (fAll hK) q)).2
theorem m_154_atom : mthOk C.K 154 "atom" 88 = true := by rw [hK]; kernel_rfl
theorem m_154_functor : mthOk C.K 154 "functor" 102 = true := by rw [hK]; kernel_rfl
theorem m_154_func : mthOk C.K 154 "func" 109 = true := by rw [hK]; kernel_rfl
theorem m_154_arity : mthOk C.K 154 "arity" 123 = true := by rw [hK]; kernel_rfl
theorem m_381_push : mthOk C.K 381 "push" 202 = true := by rw [hK]; kernel_rfl
theorem m_381_new_var : mthOk C.K 381 "new_var" 209 = true := by rw [hK]; kernel_rfl
theorem m_381_reserve : mthOk C.K 381 "reserve" 216 = true := by rw [hK]; kernel_rfl
theorem m_381_deref : mthOk C.K 381 "deref" 230 = true := by rw [hK]; kernel_rfl
theorem m_381_bind : mthOk C.K 381 "bind" 244 = true := by rw [hK]; kernel_rfl
theorem m_381_bind_pair : mthOk C.K 381 "bind_pair" 251 = true := by rw [hK]; kernel_rfl
theorem m_381_globalise : mthOk C.K 381 "globalise" 258 = true := by rw [hK]; kernel_rfl
theorem m_381_is_compound : mthOk C.K 381 "is_compound" 286 = true := by rw [hK]; kernel_rfl
theorem m_381_functor_of : mthOk C.K 381 "functor_of" 293 = true := by rw [hK]; kernel_rfl
theorem m_381_width : mthOk C.K 381 "width" 300 = true := by rw [hK]; kernel_rfl
theorem m_381_base : mthOk C.K 381 "base" 307 = true := by rw [hK]; kernel_rfl
theorem m_381_arg : mthOk C.K 381 "arg" 314 = true := by rw [hK]; kernel_rfl
theorem m_381_new_block : mthOk C.K 381 "new_block" 321 = true := by rw [hK]; kernel_rfl
theorem m_381_list_cells : mthOk C.K 381 "list_cells" 357 = true := by rw [hK]; kernel_rfl
theorem m_381_whole_size : mthOk C.K 381 "whole_size" 371 = true := by rw [hK]; kernel_rfl
theorem m_381_take_term : mthOk C.K 381 "take_term" 378 = true := by rw [hK]; kernel_rfl
theorem m_407_add : mthOk C.K 407 "add" 404 = true := by rw [hK]; kernel_rfl
theorem m_647_reset : mthOk C.K 647 "reset" 511 = true := by rw [hK]; kernel_rfl
theorem m_647_set_x : mthOk C.K 647 "set_x" 518 = true := by rw [hK]; kernel_rfl
theorem m_647_set_arguments : mthOk C.K 647 "set_arguments" 525 = true := by rw [hK]; kernel_rfl
theorem m_647_arg : mthOk C.K 647 "arg" 532 = true := by rw [hK]; kernel_rfl
theorem m_647_unify : mthOk C.K 647 "unify" 539 = true := by rw [hK]; kernel_rfl
theorem n_154 : newOk C.K 154 81 = true := by rw [hK]; kernel_rfl
theorem n_381 : newOk C.K 381 195 = true := by rw [hK]; kernel_rfl
theorem n_407 : newOk C.K 407 397 = true := by rw [hK]; kernel_rfl
theorem n_647 : newOk C.K 647 504 = true := by rw [hK]; kernel_rfl
theorem n_51 : newE C.K 51 48 := by rw [hK]; exact ⟨⟨_, _, _, _, _, _, _, _, _, _, _, _, _, _, _, _⟩, _, rfl, by kernel_rfl, by kernel_rfl, by kernel_rfl, rfl, rfl⟩
theorem e_ball : stoE C.K 51 "ball" = true := by rw [hK]; kernel_rfl
theorem f_ball : fldE C.K 51 "ball" = true := by rw [hK]; kernel_rfl
theorem b_len : nsIn C.K mainGlobals "len" = some none := by rw [hK]; kernel_rfl
theorem b_range : nsIn C.K mainGlobals "range" = some none := by rw [hK]; kernel_rfl
theorem b_set : nsIn C.K mainGlobals "set" = some none := by rw [hK]; kernel_rfl
theorem b_list : nsIn C.K mainGlobals "list" = some none := by rw [hK]; kernel_rfl
theorem b_tuple : nsIn C.K mainGlobals "tuple" = some none := by rw [hK]; kernel_rfl
theorem b_isinstance : nsIn C.K mainGlobals "isinstance" = some none := by rw [hK]; kernel_rfl
theorem b_str : nsIn C.K mainGlobals "str" = some none := by rw [hK]; kernel_rfl
theorem b_min : nsIn C.K mainGlobals "min" = some none := by rw [hK]; kernel_rfl
theorem c_is_variable : nsIn C.K mainGlobals "is_variable" = some (some (.ref 439)) ∧ keepIn C.K (.ref 439) = true := by rw [hK]; exact ⟨by kernel_rfl, by kernel_rfl⟩
theorem c_bind_checked : nsIn C.K mainGlobals "bind_checked" = some (some (.ref 453)) ∧ keepIn C.K (.ref 453) = true := by rw [hK]; exact ⟨by kernel_rfl, by kernel_rfl⟩
theorem c_ground : nsIn C.K mainGlobals "ground" = some (some (.ref 467)) ∧ keepIn C.K (.ref 467) = true := by rw [hK]; exact ⟨by kernel_rfl, by kernel_rfl⟩
theorem c_push_arguments : nsIn C.K mainGlobals "push_arguments" = some (some (.ref 418)) ∧ keepIn C.K (.ref 418) = true := by rw [hK]; exact ⟨by kernel_rfl, by kernel_rfl⟩
theorem c_unify_unify : nsIn C.K mainGlobals "unify_unify" = some (some (.ref 446)) ∧ keepIn C.K (.ref 446) = true := by rw [hK]; exact ⟨by kernel_rfl, by kernel_rfl⟩
theorem c_PairSet : nsIn C.K mainGlobals "PairSet" = some (some (.ref 407)) ∧ keepIn C.K (.ref 407) = true := by rw [hK]; exact ⟨by kernel_rfl, by kernel_rfl⟩
theorem c_Store : nsIn C.K mainGlobals "Store" = some (some (.ref 381)) ∧ keepIn C.K (.ref 381) = true := by rw [hK]; exact ⟨by kernel_rfl, by kernel_rfl⟩
theorem c_Symbols : nsIn C.K mainGlobals "Symbols" = some (some (.ref 154)) ∧ keepIn C.K (.ref 154) = true := by rw [hK]; exact ⟨by kernel_rfl, by kernel_rfl⟩
theorem c_Areas : nsIn C.K mainGlobals "Areas" = some (some (.ref 647)) ∧ keepIn C.K (.ref 647) = true := by rw [hK]; exact ⟨by kernel_rfl, by kernel_rfl⟩
theorem c_PrologError : nsIn C.K mainGlobals "PrologError" = some (some (.ref 51)) ∧ keepIn C.K (.ref 51) = true := by rw [hK]; exact ⟨by kernel_rfl, by kernel_rfl⟩
theorem c_fixed_atoms : nsIn C.K mainGlobals "fixed_atoms" = some (some (.ref 60)) ∧ keepIn C.K (.ref 60) = true := by rw [hK]; exact ⟨by kernel_rfl, by kernel_rfl⟩
theorem c_fixed_functors : nsIn C.K mainGlobals "fixed_functors" = some (some (.ref 67)) ∧ keepIn C.K (.ref 67) = true := by rw [hK]; exact ⟨by kernel_rfl, by kernel_rfl⟩
theorem c_system_error : nsIn C.K mainGlobals "system_error" = some (some (.ref 165)) ∧ keepIn C.K (.ref 165) = true := by rw [hK]; exact ⟨by kernel_rfl, by kernel_rfl⟩
theorem c_formal_of : nsIn C.K mainGlobals "formal_of" = some (some (.ref 172)) ∧ keepIn C.K (.ref 172) = true := by rw [hK]; exact ⟨by kernel_rfl, by kernel_rfl⟩
theorem c_resource_error : nsIn C.K mainGlobals "resource_error" = some (some (.ref 179)) ∧ keepIn C.K (.ref 179) = true := by rw [hK]; exact ⟨by kernel_rfl, by kernel_rfl⟩
theorem c__law_digit : nsIn C.K mainGlobals "_law_digit" = some (some (.ref 658)) ∧ keepIn C.K (.ref 658) = true := by rw [hK]; exact ⟨by kernel_rfl, by kernel_rfl⟩
theorem c__law_edges : nsIn C.K mainGlobals "_law_edges" = some (some (.ref 665)) ∧ keepIn C.K (.ref 665) = true := by rw [hK]; exact ⟨by kernel_rfl, by kernel_rfl⟩
theorem c__law_part : nsIn C.K mainGlobals "_law_part" = some (some (.ref 672)) ∧ keepIn C.K (.ref 672) = true := by rw [hK]; exact ⟨by kernel_rfl, by kernel_rfl⟩
theorem c__law_unfolded : nsIn C.K mainGlobals "_law_unfolded" = some (some (.ref 677)) ∧ keepIn C.K (.ref 677) = true := by rw [hK]; exact ⟨by kernel_rfl, by kernel_rfl⟩
theorem c__law_reached : nsIn C.K mainGlobals "_law_reached" = some (some (.ref 682)) ∧ keepIn C.K (.ref 682) = true := by rw [hK]; exact ⟨by kernel_rfl, by kernel_rfl⟩
theorem c_pred_acyclic : nsIn C.K mainGlobals "pred_acyclic" = some (some (.ref 489)) ∧ keepIn C.K (.ref 489) = true := by rw [hK]; exact ⟨by kernel_rfl, by kernel_rfl⟩
theorem c_pred_ground : nsIn C.K mainGlobals "pred_ground" = some (some (.ref 482)) ∧ keepIn C.K (.ref 482) = true := by rw [hK]; exact ⟨by kernel_rfl, by kernel_rfl⟩
theorem c_pred_is_list : nsIn C.K mainGlobals "pred_is_list" = some (some (.ref 475)) ∧ keepIn C.K (.ref 475) = true := by rw [hK]; exact ⟨by kernel_rfl, by kernel_rfl⟩
end

theorem O_sub_cells {C : Cx} {R : Rm} {env : Env} {loc : Loc} {σ : Sg} {value slice : Expr} {a : Addr} {i : Int} {cells : List Cell} {d : Cell} {P : V → Sg → Prop} (e : σ a = some (.list (cells.map cv))) (h0 : 0 ≤ i) (hx : cells[i.toNat]? = some d) (hn : cells.length ≤ 100000) (h : P (cv d) σ)
    (hs : ∀ o i, subscripted slice false o i = operate [o, i] (getItem o i) := by intro _ _; with_unfolding_all rfl) : OpV C R env loc (PyProof.Rows.subscriptTail value slice) (.ref a) (.int i) P σ := by
  have := (List.getElem?_eq_some_iff.mp hx).1
  exact O_sub_list e h0 (by (first | lia | omega)) (by rw [List.getElem?_map, hx]; rfl) h hs

theorem beq_eq_decide' (i j : Int) : (i == j) = decide (i = j) := by rw [Bool.eq_iff_iff]; simp
theorem V_eq {C : Cx} {R : Rm} {env : Env} {loc : Loc} {σ : Sg} {i j : Int} {P : V → Sg → Prop} (h1 : i = j → P (.bool true) σ) (h2 : ¬ (i = j) → P (.bool false) σ) : OpV C R env loc (compareOp .Eq) (.int i) (.int j) P σ :=
  Op_cmp (b := i == j) rfl (by
    by_cases q : i = j
    · rw [beq_iff_eq.mpr q]; exact h1 q
    · rw [show (i == j) = false from beq_eq_false_iff_ne.mpr q]; exact h2 q)
theorem V_ne {C : Cx} {R : Rm} {env : Env} {loc : Loc} {σ : Sg} {i j : Int} {P : V → Sg → Prop} (h1 : i ≠ j → P (.bool true) σ) (h2 : ¬ (i ≠ j) → P (.bool false) σ) : OpV C R env loc (compareOp .NotEq) (.int i) (.int j) P σ :=
  Op_cmp (b := i != j) rfl (by
    by_cases q : i = j
    · rw [show (i != j) = false from bne_eq_false_iff_eq.mpr q]; exact h2 (fun z => z q)
    · rw [show (i != j) = true from bne_iff_ne.mpr q]; exact h1 q)
theorem V_lt {C : Cx} {R : Rm} {env : Env} {loc : Loc} {σ : Sg} {i j : Int} {P : V → Sg → Prop} (h1 : i < j → P (.bool true) σ) (h2 : ¬ (i < j) → P (.bool false) σ) : OpV C R env loc (compareOp .Lt) (.int i) (.int j) P σ :=
  Op_cmp (b := decide (i < j)) rfl (by
    by_cases q : i < j
    · rw [decide_eq_true q]; exact h1 q
    · rw [decide_eq_false q]; exact h2 q)
theorem V_le {C : Cx} {R : Rm} {env : Env} {loc : Loc} {σ : Sg} {i j : Int} {P : V → Sg → Prop} (h1 : i ≤ j → P (.bool true) σ) (h2 : ¬ (i ≤ j) → P (.bool false) σ) : OpV C R env loc (compareOp .LtE) (.int i) (.int j) P σ :=
  Op_cmp (b := decide (i ≤ j)) rfl (by
    by_cases q : i ≤ j
    · rw [decide_eq_true q]; exact h1 q
    · rw [decide_eq_false q]; exact h2 q)
theorem V_gt {C : Cx} {R : Rm} {env : Env} {loc : Loc} {σ : Sg} {i j : Int} {P : V → Sg → Prop} (h1 : i > j → P (.bool true) σ) (h2 : ¬ (i > j) → P (.bool false) σ) : OpV C R env loc (compareOp .Gt) (.int i) (.int j) P σ :=
  Op_cmp (b := decide (i > j)) rfl (by
    by_cases q : i > j
    · rw [decide_eq_true q]; exact h1 q
    · rw [decide_eq_false q]; exact h2 q)
theorem V_ge {C : Cx} {R : Rm} {env : Env} {loc : Loc} {σ : Sg} {i j : Int} {P : V → Sg → Prop} (h1 : i ≥ j → P (.bool true) σ) (h2 : ¬ (i ≥ j) → P (.bool false) σ) : OpV C R env loc (compareOp .GtE) (.int i) (.int j) P σ :=
  Op_cmp (b := decide (i ≥ j)) rfl (by
    by_cases q : i ≥ j
    · rw [decide_eq_true q]; exact h1 q
    · rw [decide_eq_false q]; exact h2 q)
theorem Set_cells {C : Cx} {R : Rm} {env : Env} {loc : Loc} {σ : Sg} {a : Addr} {i : Int} {cells : List Cell} {d : Cell} {P : Sg → Prop} (e : σ a = some (.list (cells.map cv))) (h0 : 0 ≤ i) (hi : i < cells.length) (hn : cells.length ≤ 100000) (h : P (upd σ a (.list ((cells.set i.toNat d).map cv)))) : SetV C R env loc (.ref a) (.int i) (cv d) P σ :=
  Set_list e h0 (by simpa using hi) (by simp; (first | lia | omega)) (by rw [List.map_set] at h; exact h)

theorem lv_under {n : Nat} {A : Around} (h : (lv (n + 1)).P A) (Cl : Addr) (vals : List Value) : (lv n).P (A.under (.builtin "type.__call__" ⟨.ref Cl :: vals, []⟩)) := by
  refine xE0A2 h fun h1 h2 h3 => ?_
  try clear h
  exact ⟨h1, by show A.depth + 1 + 8 * n + 20 < 1000; (first | lia | omega), by
    have e : (A.under (.builtin "type.__call__" ⟨.ref Cl :: vals, []⟩)).units = A.units + 1 := rfl
    rw [e]; (first | lia | omega)⟩
theorem WC_new' {C : Cx} {Cl f : Addr} {args : List V} {P : V → Sg → Prop} {σ : Sg} {n : Nat} (hok : newOk C.K Cl f = true)
    (h : ∀ a d, σ a = none → σ d = none → a ≠ d → WC C (lv n).P f (.ref a :: args) (fun x σ' => x = .none ∧ P (.ref a) σ') (upd (upd σ d (.ns (fun _ => none) 0)) a (.inst Cl d))) : WC C (lv (n + 1)).P Cl args P σ :=
  WC_new (fun A vals r => lv_under r Cl vals) hok h
theorem W_CallF' {C : Cx} {R : Rm} {env : Env} {loc : Loc} {σ : Sg} {g : Str} {gp pos : Pos} {args : List Expr} {f : Addr} {P : V → Sg → Prop} (hv : nsIn C.K mainGlobals g = some (some (.ref f)) ∧ keepIn C.K (.ref f) = true) (hn : env.kindOf g = some .globalImplicit)
    (h : WL C R env loc (spliced (backTo pos (starEach args env))) (Cw C R f P) σ)
    (hplain : (backTo pos (starEach args env)).any (·.1) = false := by rfl) (hd : (g == ("__debug__" : Str)) = false := by decide) : WE C R env loc (eval (.Call (.Name g gp) args [] pos) env) P σ := W_CallF hv.1 hv.2 hn h hplain hd
/-- less is told -/
noncomputable def Sub (σ τ : Sg) : Prop := ∀ a o, σ a = some o → τ a = some o
theorem Sub.refl (σ : Sg) : Sub σ σ := fun _ _ h => h
theorem Sub.trans {σ τ υ : Sg} (x : Sub σ τ) (y : Sub τ υ) : Sub σ υ := fun a o h => y a o (x a o h)
theorem Sub.upd {σ τ : Sg} {a : Addr} {o : AO} (h : Sub σ τ) : Sub (upd σ a o) (upd τ a o) := fun b p e => by
  by_cases q : b = a
  · subst q; rw [upd_same] at e ⊢; exact e
  · rw [upd_ne _ _ q] at e ⊢; exact h b p e
theorem Sub.loc {σ τ : Sg} {a : Addr} {o : AO} (h : Sub σ τ) (ha : σ a = none) : Sub σ (Mine.upd τ a o) := fun b p e => by
  rw [upd_ne _ _ (fun q => by rw [q, ha] at e; cases e)]; exact h b p e
theorem Sub.fresh {σ τ : Sg} {a : Addr} {o : AO} (h : Sub σ τ) (ha : τ a = none) : Sub σ (Mine.upd τ a o) := h.loc (by
  cases q : σ a with
  | none => rfl
  | some p => exact absurd (h a p q) (by rw [ha]; exact fun z => nomatch z))

/-! methods of built-in objects -/
theorem ty_append : typeOf (.builtin "list.append") = pure (.type "method_descriptor") := by show builtinType _ = _; rw [builtinType_eq_fast]; kernel_rfl
theorem ty_pop : typeOf (.builtin "list.pop") = pure (.type "method_descriptor") := by show builtinType _ = _; rw [builtinType_eq_fast]; kernel_rfl
theorem ty_get : typeOf (.builtin "dict.get") = pure (.type "method_descriptor") := by show builtinType _ = _; rw [builtinType_eq_fast]; kernel_rfl
theorem ty_add : typeOf (.builtin "set.add") = pure (.type "method_descriptor") := by show builtinType _ = _; rw [builtinType_eq_fast]; kernel_rfl
section
variable {C : Cx} {R : Rm} {env : Env} {loc : Loc} {σ : Sg} {o : Expr} {ap pos : Pos} {args : List Expr} {P : V → Sg → Prop}
theorem W_M_append (h : WE C R env loc (eval o env) (KB C R env loc "list" "list.append" pos args P) σ)
    {pl : Sem Bool} (he : methEq env o "append" ap pos args pl := by rfl) (hplain : (backTo pos (starEach args env)).any (·.1) = false := by rfl) : WE C R env loc (eval (.Call (.Attribute o "append" ap) args [] pos) env) P σ :=
  W_MethB F.plainAttrs_list F.slot_list_append ty_append (by decide) h he hplain
theorem W_M_pop (h : WE C R env loc (eval o env) (KB C R env loc "list" "list.pop" pos args P) σ)
    {pl : Sem Bool} (he : methEq env o "pop" ap pos args pl := by rfl) (hplain : (backTo pos (starEach args env)).any (·.1) = false := by rfl) : WE C R env loc (eval (.Call (.Attribute o "pop" ap) args [] pos) env) P σ :=
  W_MethB F.plainAttrs_list F.slot_list_pop ty_pop (by decide) h he hplain
theorem W_M_get (h : WE C R env loc (eval o env) (KB C R env loc "dict" "dict.get" pos args P) σ)
    {pl : Sem Bool} (he : methEq env o "get" ap pos args pl := by rfl) (hplain : (backTo pos (starEach args env)).any (·.1) = false := by rfl) : WE C R env loc (eval (.Call (.Attribute o "get" ap) args [] pos) env) P σ :=
  W_MethB F.plainAttrs_dict F.slot_dict_get ty_get (by decide) h he hplain
theorem W_M_add (h : WE C R env loc (eval o env) (KB C R env loc "set" "set.add" pos args P) σ)
    {pl : Sem Bool} (he : methEq env o "add" ap pos args pl := by rfl) (hplain : (backTo pos (starEach args env)).any (·.1) = false := by rfl) : WE C R env loc (eval (.Call (.Attribute o "add" ap) args [] pos) env) P σ :=
  W_MethB F.plainAttrs_set F.slot_set_add ty_add (by decide) h he hplain
theorem W_len {gp : Pos} (hv : nsIn C.K mainGlobals "len" = some none) (hk : env.kindOf "len" = some .globalImplicit) (h : WL C R env loc (spliced (backTo pos (starEach args env))) (Cb C R env loc "len" P) σ)
    (hplain : (backTo pos (starEach args env)).any (·.1) = false := by rfl) : WE C R env loc (eval (.Call (.Name "len" gp) args [] pos) env) P σ := W_CallB hv boot_len (by decide) hk h hplain
theorem W_set {gp : Pos} (hv : nsIn C.K mainGlobals "set" = some none) (hk : env.kindOf "set" = some .globalImplicit) (h : WL C R env loc (spliced (backTo pos (starEach args env))) (Ct C R env loc "set" P) σ)
    (hplain : (backTo pos (starEach args env)).any (·.1) = false := by rfl) : WE C R env loc (eval (.Call (.Name "set" gp) args [] pos) env) P σ := W_CallT hv PyProof.Rows.boot_set (by decide) hk h hplain
theorem W_list {gp : Pos} (hv : nsIn C.K mainGlobals "list" = some none) (hk : env.kindOf "list" = some .globalImplicit) (h : WL C R env loc (spliced (backTo pos (starEach args env))) (Ct C R env loc "list" P) σ)
    (hplain : (backTo pos (starEach args env)).any (·.1) = false := by rfl) : WE C R env loc (eval (.Call (.Name "list" gp) args [] pos) env) P σ := W_CallT hv PyProof.Rows.boot_list (by decide) hk h hplain
theorem W_tuple {gp : Pos} (hv : nsIn C.K mainGlobals "tuple" = some none) (hk : env.kindOf "tuple" = some .globalImplicit) (h : WL C R env loc (spliced (backTo pos (starEach args env))) (Ct C R env loc "tuple" P) σ)
    (hplain : (backTo pos (starEach args env)).any (·.1) = false := by rfl) : WE C R env loc (eval (.Call (.Name "tuple" gp) args [] pos) env) P σ := W_CallT hv PyProof.Rows.boot_tuple (by decide) hk h hplain
theorem B_lenC {a : Addr} {cells : List Cell} (e : σ a = some (.list (cells.map cv))) (hn : cells.length ≤ 1000000) (h : P (.int cells.length) σ) : CallB C R env loc "len" [.ref a] P σ := B_len e (by simpa using hn) (by simpa using h)
theorem B_appC {a : Addr} {cells : List Cell} {c : Cell} (e : σ a = some (.list (cells.map cv))) (hn : cells.length ≤ 100000) (h : P .none (upd σ a (.list ((cells ++ [c]).map cv)))) : CallB C R env loc "list.append" [.ref a, cv c] P σ := B_append e (by simpa using hn) (by simpa using h)
end

noncomputable def storeNs (bk hp sk tr : Addr) : Str → Option V := setF (setF (setF (setF (setF (setF (setF (fun _ => none) "symbols" (.ref bk)) "max_heap" (.int 2000)) "heap" (.ref hp)) "stack" (.ref sk)) "trail" (.ref tr)) "hb" (.int 0)) "bb" (.int 0)

/-! ### expressions of names, constants, places of tuples and sums: told at one stroke -/
structure Ev (C : Cx) (env : Env) (loc : Loc) (e : Expr) (v : V) : Prop where
  h : ∀ (R : Rm) (σ : Sg) (P : V → Sg → Prop), P v σ → WE C R env loc (eval e env) P σ
structure Evs (C : Cx) (env : Env) (loc : Loc) (es : List Expr) (vs : List V) : Prop where
  h : ∀ (R : Rm) (σ : Sg) (pos : Pos) (P : List V → Sg → Prop), P vs σ → WL C R env loc (spliced (backTo pos (starEach es env))) P σ
section
variable {C : Cx} {R : Rm} {env : Env} {loc : Loc} {σ : Sg}
theorem W_ev {e : Expr} {v : V} {P : V → Sg → Prop} (h : Ev C env loc e v) (hp : P v σ) : WE C R env loc (eval e env) P σ := h.h R σ P hp
theorem WL_ev {es : List Expr} {vs : List V} {pos : Pos} {P : List V → Sg → Prop} (h : Evs C env loc es vs) (hp : P vs σ) : WL C R env loc (spliced (backTo pos (starEach es env))) P σ := h.h R σ pos P hp
theorem W_tc {l r : Expr} {op : CmpOp} {pos : Pos} {whole : Sem Value} {x y : V} {P : Bool → Sg → Prop} (hl : Ev C env loc l x) (hr : Ev C env loc r y) (h : OpV C R env loc (compareOp op) x y (TB P) σ)
    (hm : behindInMarks op r = false := by with_unfolding_all rfl) : WB C R env loc (isTrue (.Compare l [op] [r] pos) env whole) P σ := W_testCmp (hl.h R σ _ (hr.h R σ _ h)) hm
theorem ev_name {x : Str} {p : Pos} {v : V} (hv : loc x = some v) (hk : env.kindOf x = some .local) (hd : (x == ("__debug__" : Str)) = false := by decide) : Ev C env loc (.Name x p) v := ⟨fun _ _ _ h => W_NameL hv hk h hd⟩
theorem ev_glob {x : Str} {p : Pos} {i : Int} (hv : gInt C.K x = some i) (hk : env.kindOf x = some .globalImplicit) (hd : (x == ("__debug__" : Str)) = false := by decide) : Ev C env loc (.Name x p) (.int i) := ⟨fun _ _ _ h => W_NameI hv hk h hd⟩
theorem ev_int {i : Int} {k : Nat} {p : Pos} : Ev C env loc (.Constant (.int i) k p) (.int i) := ⟨fun _ _ _ h => W_Const_int h⟩
theorem ev_str {i : Str} {k : Nat} {p : Pos} : Ev C env loc (.Constant (.str i) k p) (.str i) := ⟨fun _ _ _ h => W_Const_str h⟩
theorem ev_bool {i : Bool} {k : Nat} {p : Pos} : Ev C env loc (.Constant (.bool i) k p) (.bool i) := ⟨fun _ _ _ h => W_Const_bool h⟩
theorem ev_none {k : Nat} {p : Pos} : Ev C env loc (.Constant .none k p) .none := ⟨fun _ _ _ h => W_Const_none h⟩
theorem ev_neg {e : Expr} {p : Pos} {i : Int} {x : V} (a : Ev C env loc e x) (hx : x = .int i) : Ev C env loc (.UnaryOp .USub e p) (.int (-i)) := ⟨fun _ _ _ h => W_Neg (a.h _ _ _ ⟨i, hx, h⟩)⟩
theorem ev_add {l r : Expr} {p : Pos} {i j : Int} {x y : V} (a : Ev C env loc l x) (b : Ev C env loc r y) (hx : x = .int i) (hy : y = .int j) : Ev C env loc (.BinOp l .Add r p) (.int (i + j)) := by
  subst hx hy; exact ⟨fun _ _ _ h => W_Bin (a.h _ _ _ (b.h _ _ _ (Op_add h)))⟩
theorem ev_sub {l r : Expr} {p : Pos} {i j : Int} {x y : V} (a : Ev C env loc l x) (b : Ev C env loc r y) (hx : x = .int i) (hy : y = .int j) : Ev C env loc (.BinOp l .Sub r p) (.int (i - j)) := by
  subst hx hy; exact ⟨fun _ _ _ h => W_Bin (a.h _ _ _ (b.h _ _ _ (Op_sub h)))⟩
theorem ev_idx {value slice : Expr} {p : Pos} {i : Int} {vs : List V} {w u x : V} (a : Ev C env loc value w) (b : Ev C env loc slice u) (hw : w = .tup vs) (hu : u = .int i) (h0 : 0 ≤ i) (hi : i < 1000000) (hx : vs[i.toNat]? = some x)
    (hs : ∀ o i, subscripted slice false o i = operate [o, i] (getItem o i) := by intro _ _; with_unfolding_all rfl) : Ev C env loc (.Subscript value slice p) x := by
  subst hw hu; exact ⟨fun _ _ _ h => W_Sub (a.h _ _ _ (b.h _ _ _ (O_sub_tup h0 hi hx h hs)))⟩
theorem ev_tup {es : List Expr} {k : Nat} {p : Pos} {vs : List V} (a : Evs C env loc es vs) (hl : Nat.ble vs.length 100000 = true) : Ev C env loc (.Tuple es k p) (.tup vs) := ⟨fun _ _ _ h => W_Tuple (a.h _ _ _ _ ⟨Nat.le_of_ble_eq_true hl, h⟩)⟩
theorem evs_nil : Evs C env loc [] [] := ⟨fun _ _ _ _ h => W_nil h⟩
theorem evs_cons {e : Expr} {es : List Expr} {v : V} {vs : List V} (a : Ev C env loc e v) (b : Evs C env loc es vs) (he : starEach (e :: es) env = (false, eval e env) :: starEach es env := by rfl) : Evs C env loc (e :: es) (v :: vs) :=
  ⟨fun _ _ _ _ h => W_cons (a.h _ _ _ (b.h _ _ _ _ h)) he⟩
end
set_option hygiene false
set_option compiler.extract_closed false
local macro_rules | `(tactic| w_seek) => `(tactic| first
  | ((with_reducible apply ev_glob); o_asPy; o_inst; decide)
  | ((with_reducible apply ev_name); o_new; o_inst; decide)
  | (with_reducible first | exact ev_int | exact ev_str | exact ev_bool | exact ev_none)
  | ((with_reducible apply ev_idx); w_seek; w_seek; rfl; rfl; decide; decide; rfl; leaf_len)
  | ((with_reducible first | apply ev_add | apply ev_sub); w_seek; w_seek; rfl; rfl)
  | ((with_reducible apply ev_tup); w_tab; rfl)
  | ((with_reducible apply ev_neg); w_seek; rfl) | fail)
local macro_rules | `(tactic| w_tab) => `(tactic| first | with_reducible exact evs_nil | refine evs_cons (by w_seek) (by w_tab) | fail)
local macro_rules | `(tactic| w_left) => `(tactic| try first | contradiction | (exfalso; (first | lia | omega)) | (exfalso; rename_i hx; simp at hx; done))
local macro_rules | `(tactic| k_mem) => `(tactic| first | (first | lia | omega) | exact Nat.le_of_ble_eq_true rfl | (simp; done) | (simp; (first | lia | omega)))
local macro_rules | `(tactic| k_upd) => `(tactic| first | exact le_big (by assumption) (by rfl) | (first | lia | omega))
local macro_rules | `(tactic| k_all) => `(tactic| first | (w_typed; done) | fail)
local macro_rules | `(tactic| o_shape) => `(tactic| ((with_reducible first | apply c_is_variable | apply c_bind_checked | apply c_ground | apply c_push_arguments | apply c_unify_unify | apply c_PairSet | apply c_Store | apply c_Symbols | apply c_Areas | apply c_PrologError | apply c_fixed_atoms | apply c_fixed_functors | apply c_system_error | apply c_formal_of | apply c_resource_error | apply c__law_digit | apply c__law_edges | apply c__law_part | apply c__law_unfolded | apply c__law_reached | apply c_pred_acyclic | apply c_pred_ground | apply c_pred_is_list); assumption))
local macro_rules | `(tactic| w_side) => `(tactic| first | ((with_reducible first | refine f_of ?_ ?_ | refine s_of ?_ ?_); assumption; kernel_rfl) | ((with_reducible first | apply m_154_atom | apply m_154_functor | apply m_154_func | apply m_154_arity | apply m_381_push | apply m_381_new_var | apply m_381_reserve | apply m_381_deref | apply m_381_bind | apply m_381_bind_pair | apply m_381_globalise | apply m_381_is_compound | apply m_381_functor_of | apply m_381_width | apply m_381_base | apply m_381_arg | apply m_381_new_block | apply m_381_list_cells | apply m_381_whole_size | apply m_381_take_term | apply m_407_add | apply m_647_reset | apply m_647_set_x | apply m_647_set_arguments | apply m_647_arg | apply m_647_unify | apply n_154 | apply n_381 | apply n_407 | apply n_647 | apply b_len | apply b_range | apply b_set | apply b_list | apply b_tuple | apply b_isinstance | apply b_str | apply b_min); assumption) | fail)
local macro_rules | `(tactic| o_asPy) => `(tactic| ((with_reducible first | apply g_REF | apply g_SRF | apply g_STR | apply g_LIS | apply g_CON | apply g_INT | apply g_FUN | apply g_VISIT | apply g_BUILD | apply g_A_NIL | apply g_A_SYSTEM | apply g_F_DOT | apply g_F_ERROR); assumption))
local macro_rules | `(tactic| w_typed) => `(tactic| first | assumption | exact upd_same _ _ _ | (refine upd_look (by first | (o_norm; done) | fail) ?_; w_typed) | fail)
local macro_rules | `(tactic| o_new) => `(tactic| first
  | with_reducible assumption | (with_reducible exact setL_same _ _ _) | (with_reducible refine setL_ne (by kernel_rfl!) ?_; o_new) | (with_reducible exact locOf_hit (by kernel_rfl!)) | (with_reducible refine locOf_skip ?_; o_new) | rfl)
local macro_rules | `(tactic| o_inst) => `(tactic| first | exact kd (by kernel_rfl!) | exact kdC (by kernel_rfl!) | exact .inl (kd (by kernel_rfl!)) | exact .inr (kdC (by kernel_rfl!)) | rfl | exact .inl rfl | exact .inr rfl | fail)
local macro_rules | `(tactic| o_norm) => `(tactic| first | assumption | exact Ne.symm (by assumption) | exact ne_fresh (by assumption) (by w_typed) | exact Ne.symm (ne_fresh (by assumption) (by w_typed)) | fail)
local macro_rules | `(tactic| leaf_len) => `(tactic| first | with_unfolding_all rfl | (intro _; intros; with_unfolding_all rfl) | fail)
local macro_rules | `(tactic| w_up) => `(tactic| first
  | ((with_reducible show WS _ _ _ _ _ _ _ _); first
    | (with_reducible first | refine S_cons ?_ | refine S_nil ?_ | refine S_If ?_ | refine S_Return ?_ | refine S_Continue ?_ | refine S_ReturnNone ?_ | refine S_DelFrom ?_)
    | ((with_reducible refine S_Assign ?_ ?_ ?_); o_inst; rotate_left; rfl)
    | ((with_reducible refine S_AugName ?_ ?_); o_inst)
    | ((with_reducible first | refine S_AssignAttr ?_ ?_ | refine S_AssignSub ?_ ?_ | refine S_AugSub ?_ ?_); rotate_left; first | rfl | (intro _ _ _; rfl))
    | ((with_reducible refine S_Expr ?_ ?_ ?_); rotate_left; rfl; rfl)
    | ((with_reducible refine S_AssignTup2 ?_ ?_ ?_ ?_ ?_); o_inst; o_inst; rotate_left; rfl; rfl))
  | ((with_reducible show WE _ _ _ _ (loadName _ _) _ _); first | refine W_load (by o_new) (by o_inst) ?_ | refine W_loadC (by o_new) (by o_inst) ?_)
  | ((with_reducible show WE _ _ _ _ (eval _ _) _ _); first
    | refine W_ev (by w_seek) ?_
    | (with_reducible first | refine W_Bin ?_ | refine W_Tuple ?_ | refine W_List ?_ | refine W_IfExp ?_)
    | ((with_reducible first | refine W_SliceFrom ?_ ?_ | refine W_Attr ?_ ?_ | refine W_Cmp ?_ ?_); rotate_left; leaf_len)
    | (with_reducible first | refine W_Sub ?_ | refine W_Or2 ?_)
    | ((with_reducible show WE _ _ _ _ (eval (.Call (.Attribute ..) ..) _) _ _); first | refine W_M_append ?_ | refine W_M_pop ?_ | refine W_M_get ?_ | refine W_M_add ?_ | refine W_MethI ?_)
    | ((with_reducible show WE _ _ _ _ (eval (.Name ..) _) _ _); refine W_Name (W_loadC (by o_new) (by o_inst) ?_))
    | ((with_reducible first | refine W_len ?_ ?_ ?_ ?_ | refine W_set ?_ ?_ ?_ ?_ | refine W_list ?_ ?_ ?_ ?_ | refine W_tuple ?_ ?_ ?_ ?_); w_side; o_inst; rotate_left; rfl)
    | ((with_reducible show WE _ _ _ _ (eval (.Call (.Name ..) ..) _) _ _); refine W_CallF' (by o_shape) (by o_inst) ?_))
  | ((with_reducible show WB _ _ _ _ _ _ _); first
    | (with_reducible first | refine W_testNot ?_ | refine W_testAnd ?_ | refine W_testOr ?_)
    | ((with_reducible show WB _ _ _ _ (isTrue (.Compare ..) _ _) _ _); first | refine W_tc (by w_seek) (by w_seek) ?_ | refine W_testCmp ?_)
    | ((with_reducible refine W_testV ?_ ?_); rotate_left; rfl))
  | ((with_reducible show WL _ _ _ _ _ _ _); first
    | refine WL_ev (by w_tab) ?_
    | ((with_reducible refine W_cons ?_ ?_); rotate_left; rfl)
    | (with_reducible refine W_nil ?_))
  | ((with_reducible show OpV _ _ _ _ _ _ _ _ _); first
    | (with_reducible first | refine Op_add ?_ | refine Op_sub ?_ | refine Op_iadd ?_)
    | ((with_reducible first | refine T_eq ?_ ?_ | refine T_ne ?_ ?_ | refine T_lt ?_ ?_ | refine T_le ?_ ?_ | refine T_gt ?_ ?_ | refine T_ge ?_ ?_ | refine V_eq ?_ ?_ | refine V_ne ?_ ?_ | refine V_lt ?_ ?_ | refine V_le ?_ ?_ | refine V_gt ?_ ?_ | refine V_ge ?_ ?_ | refine T_eqc ?_ ?_) <;> (intro _; w_left))
    | ((with_reducible refine Op_mul ?_ ?_); exact PySem.IntMulOk.of_left (by decide +kernel))
    | ((with_reducible show OpV _ _ _ _ (PyProof.Rows.subscriptTail _ _) _ (.int ..) _ _); first | refine O_sub_tup (by decide) (by decide) rfl ?_ | refine O_sub_cells (by k_all) (by (first | lia | omega)) (by first | assumption | rfl) (by k_upd) ?_ | refine O_sub_list (by w_typed) (by first | (first | lia | omega) | decide) (by (first | lia | omega)) ?_ ?_))
  | (with_reducible refine Rq_end hQp ?_)
  | ((with_reducible guard_target =~ Br _ _ _ _); first | refine br_t ?_ | refine br_f ?_)
  | ((with_reducible show @ite _ _ _ _ _); first | refine ite_t ?_ | refine ite_f ?_)
  | ((with_reducible show SetV _ _ _ _ _ _ (cv _) _ _); refine Set_cells (by w_typed) (by (first | lia | omega)) (by (first | lia | omega)) (by (first | lia | omega)) ?_)
  | ((with_reducible show Sub _ _); first | exact Sub.refl _ | refine Sub.upd ?_ | refine Sub.loc ?_ (by assumption) | refine Sub.fresh ?_ (by assumption))
  | ((with_reducible show CallB _ _ _ _ "list.pop" _ _ _); first | refine B_pop (vs := []) (by w_typed) (by simp) ?_ | refine B_pop (by w_typed) (by first | (first | lia | omega) | (simp; (first | lia | omega))) ?_)
  | ((with_reducible show CallB _ _ _ _ "len" _ _ _); first | refine B_lenC (by k_all) (by k_upd) ?_ | refine B_len (by w_typed) (by k_mem) ?_)
  | ((with_reducible show CallB _ _ _ _ "list.append" _ _ _); first | refine B_appC (by k_all) (by first | exact lt_big (by assumption) (by rfl) | k_upd) ?_ | refine B_append (by w_typed) (by k_mem) ?_)
  | (with_reducible refine T_set fun _ _ => ?_)
  | ((with_reducible show V.plain _ = true ∧ _); refine ⟨rfl, ?_⟩)
  | ((with_reducible show List.length _ ≤ 100000 ∧ (∀ _, _)); refine ⟨(by k_mem), fun _ _ => ?_⟩)
  | ((with_reducible show List.length _ ≤ 100000 ∧ _); refine ⟨(by k_mem), ?_⟩)
  | ((with_reducible first | show ∃ _, V.int _ = _ ∧ _ | show ∃ _, V.bool _ = _ ∧ _); refine ⟨_, rfl, ?_⟩)
  | ((with_reducible show KM _ _ _ _ _ _ _ _ _ _); refine KM_i (by w_typed) (by w_typed) (by first | assumption | rfl) (by w_side) ?_)
  | ((with_reducible show KA _ _ _ _ _); refine KA_i (by w_typed) (by w_typed) (by first | assumption | rfl) (by w_side) ?_)
  | ((with_reducible show KB _ _ _ _ _ _ _ _ _ _ _); refine KB_i (by w_typed) (by rfl) ?_)
  | ((with_reducible show KS _ _ _ _ _ _); first | refine KS_s (by k_all) (by rfl) (by w_side) ?_ | refine KS_i (by w_typed) (by w_typed) (by rfl) (by w_side) ?_)
  | exact ⟨_, fun _ _ h => h, rfl, rfl⟩
  | refine ⟨_, (show Sub _ _ from ?_), rfl, rfl⟩
  | refine ⟨_, _, rfl, ?_⟩
  | refine ⟨_, rfl, (fun _ _ q => (nomatch q)), ?_⟩
  | fail "stuck"
)
set_option hygiene true


theorem deref_ok {C : Cx} (hK : C.K = KK C.w.params) {σ : Sg} {st sd bk hp sk tr : Addr} {n k : Nat} {cells : List Cell} {c d : Cell}
    (h1 : σ st = some (.inst 381 sd)) (h2 : σ sd = some (.ns (storeNs bk hp sk tr) n)) (h3 : σ hp = some (.list (cells.map cv))) (hd : Der cells k c d) (hlen : cells.length < 100000) :
    WC C (lv 1).P 230 [.ref st, cv c] (fun x σ' => x = cv d ∧ σ' = σ) σ := by
  refine WC_def0K (fd := fd230) (body := bd230) (n := 0) (names := ["self", "cell"]) hK (at230 _) (cd230 _) rfl rfl rfl rfl (BindF_2 fun a b => rfl) (by kernel_rfl!) fun L hL Qp hQp => ?_
  refine S_cons ?_
  refine S_While (fun n loc' σ' => σ' = σ ∧ ∃ c', loc' "self" = some (.ref st) ∧ loc' "cell" = some (cv c') ∧ Der cells n c' d) k ⟨rfl, c, rfl, rfl, hd⟩ fun J jJ n loc' σ' hI => ?_
  refine Classical.byContradiction fun hG => ?_
  refine xE0A1 hI fun hr1_ hz2_ => ?_
  try clear hI
  refine xE1A2 hz2_ fun c' hl1 hl2 hd' => ?_
  clear hz2_
  obtain rfl := hr1_
  refine hG ?_
  clear hG
  cases hd' with
  | stop e1 e2 => repeat' w_up
  | self e1 e2 e3 => repeat' w_up
  | step e1 e2 e3 e4 e5 =>
    repeat' w_up
    exact ⟨_, Nat.lt_succ_self _, jJ ⟨rfl, _, by assumption, rfl, e5⟩⟩

/-- the store as it is told in σ -/
structure Sto (σ : Sg) (st sd bk hp sk tr : Addr) (cells : List Cell) : Prop where
  h1 : σ st = some (.inst 381 sd)
  h2 : σ sd = some (.ns (storeNs bk hp sk tr) 7)
  h3 : σ hp = some (.list (cells.map cv))
  h4 : σ sk = some (.list [])
  h5 : σ tr = some (.list [])
  len : cells.length < 2000
  n1 : st ≠ hp
  n2 : sd ≠ hp
  n3 : sk ≠ hp
  n4 : tr ≠ hp
theorem Sto.x3 {σ : Sg} {st sd bk hp sk tr : Addr} {cells : List Cell} {q : Prop} (S : Sto σ st sd bk hp sk tr cells) (k : σ st = some (.inst 381 sd) → σ sd = some (.ns (storeNs bk hp sk tr) 7) → σ hp = some (.list (cells.map cv)) → cells.length < 2000 → st ≠ hp → sd ≠ hp → q) : q := k S.h1 S.h2 S.h3 S.len S.n1 S.n2
theorem Sto.set {σ : Sg} {st sd bk hp sk tr : Addr} {cells cells' : List Cell} (s : Sto σ st sd bk hp sk tr cells) (hl : cells'.length < 2000) : Sto (upd σ hp (.list (cells'.map cv))) st sd bk hp sk tr cells' :=
  ⟨upd_look s.n1 s.h1, upd_look s.n2 s.h2, upd_same _ _ _, upd_look s.n3 s.h4, upd_look s.n4 s.h5, hl, s.n1, s.n2, s.n3, s.n4⟩

section
variable {C : Cx} (hK : C.K = KK C.w.params) {σ : Sg} {st sd bk hp sk tr : Addr} {cells : List Cell}
include hK

theorem base_ok {c : Cell} (S : Sto σ st sd bk hp sk tr cells) : WC C (lv 1).P 307 [.ref st, cv c] (fun x σ' => x = .int (if c.1 = 3 then c.2 else c.2 + 1) ∧ σ' = σ) σ := by
  refine WC_def0K (fd := fd307) (body := bd307) (n := 0) (names := ["self", "cell"]) hK (at307 _) (cd307 _) rfl rfl rfl rfl (BindF_2 fun a b => rfl) (by kernel_rfl!) fun L hL Qp hQp => ?_
  refine S_cons ?_
  repeat' w_up
  · rename_i h; exact ⟨_, fun _ _ h => h, by rw [if_pos h]; rfl, rfl⟩
  · rename_i h; exact ⟨_, fun _ _ h => h, by rw [if_neg h]; rfl, rfl⟩

theorem is_compound_ok {c : Cell} (S : Sto σ st sd bk hp sk tr cells) : WC C (lv 1).P 286 [.ref st, cv c] (fun x σ' => x = .bool (decide (c.1 = 2 ∨ c.1 = 3)) ∧ σ' = σ) σ := by
  refine WC_def0K (fd := fd286) (body := bd286) (n := 0) (names := ["self", "cell"]) hK (at286 _) (cd286 _) rfl rfl rfl rfl (BindF_2 fun a b => rfl) (by kernel_rfl!) fun L hL Qp hQp => ?_
  refine S_cons ?_
  repeat' w_up
  all_goals exact ⟨_, fun _ _ h => h, by simp [retV]; (first | lia | omega), rfl⟩

theorem bind_ok {c d : Cell} (S : Sto σ st sd bk hp sk tr cells) (hc : c.1 = 0) (h0 : 0 ≤ c.2) (hl : c.2 < cells.length) :
    WC C (lv 1).P 244 [.ref st, cv c, cv d] (fun x σ' => x = .none ∧ σ' = upd σ hp (.list ((cells.set c.2.toNat d).map cv))) σ := by
  refine S.x3 fun s1 s2 s3 s6 n1 n2 => ?_
  refine WC_def0K (fd := fd244) (body := bd244) (n := 0) (names := ["self", "cell", "value"]) hK (at244 _) (cd244 _) rfl rfl rfl rfl (BindF_3 fun a b c => rfl) (by kernel_rfl!) fun L hL Qp hQp => ?_
  refine S_cons ?_
  repeat' w_up

/-- the names and functors as they are told in σ -/
noncomputable def bookNs (tx an fu fn : Addr) : Str → Option V := setF (setF (setF (setF (fun _ => none) "texts" (.ref tx)) "atom_numbers" (.ref an)) "functors" (.ref fu)) "functor_numbers" (.ref fn)
structure Boo (σ : Sg) (bk bd tx an fu fn : Addr) (fs : List Cell) : Prop where
  b1 : σ bk = some (.inst 154 bd)
  b2 : σ bd = some (.ns (bookNs tx an fu fn) 4)
  b3 : σ fu = some (.list (fs.map cv))
  len : fs.length < 1000

theorem arity_ok {bd tx an fu fn : Addr} {fs : List Cell} {f p : Cell} (B : Boo σ bk bd tx an fu fn fs) (h0 : 0 ≤ f.2) (hw : fs[f.2.toNat]? = some p) : WC C (lv 1).P 123 [.ref bk, .int f.2] (fun x σ' => x = .int p.2 ∧ σ' = σ) σ := by
  obtain ⟨b1, b2, b3, b4⟩ := B
  refine WC_def0K (fd := fd123) (body := bd123) (n := 0) (names := ["self", "functor"]) hK (at123 _) (cd123 _) rfl rfl rfl rfl (BindF_2 fun a b => rfl) (by kernel_rfl!) fun L hL Qp hQp => ?_
  refine S_cons ?_
  repeat' w_up

theorem width_ok {c : Cell} {w : Nat} {bd fu fn tx an : Addr} {fs : List Cell} (S : Sto σ st sd bk hp sk tr cells) (B : Boo σ bk bd tx an fu fn fs)
    (hc : Wid cells fs c w) : WC C (lv 2).P 300 [.ref st, cv c] (fun x σ' => x = .int w ∧ σ' = σ) σ := by
  have B' := B
  refine S.x3 fun s1 s2 s3 s6 n1 n2 => ?_
  obtain ⟨b1, b2, b3, b4⟩ := B
  refine WC_def0K (fd := fd300) (body := bd300) (n := 1) (names := ["self", "cell"]) hK (at300 _) (cd300 _) rfl rfl rfl rfl (BindF_2 fun a b => rfl) (by kernel_rfl!) fun L hL Qp hQp => ?_
  refine S_cons ?_
  cases hc with
  | lis h1 h2 => repeat' w_up
  | str h1 h2 h3 h4 h5 w h6 =>
    repeat' w_up
    exact (arity_ok hK B' h4 h5).use (by decide) fun x s ⟨e1, e2⟩ => by subst e1 e2; exact Rq_end hQp ⟨_, fun _ _ h => h, by rw [h6]; rfl, rfl⟩

theorem globalise_ok {k : Nat} {c d : Cell} (S : Sto σ st sd bk hp sk tr cells) (hd : Der cells k c d) (hd1 : d.1 ≠ 1) : WC C (lv 2).P 258 [.ref st, cv c] (fun x σ' => x = cv d ∧ σ' = σ) σ := by
  have S' := S
  refine S.x3 fun s1 s2 s3 s6 n1 n2 => ?_
  refine WC_def0K (fd := fd258) (body := bd258) (n := 1) (names := ["self", "cell"]) hK (at258 _) (cd258 _) rfl rfl rfl rfl (BindF_2 fun a b => rfl) (by kernel_rfl!) fun L hL Qp hQp => ?_
  refine S_cons ?_
  repeat' w_up
  refine (deref_ok hK s1 s2 s3 hd (by first | exact lt_big (by assumption) (by rfl) | (first | lia | omega))).useV (by decide) ?_
  repeat' w_up

end

theorem steps_01 (n : Nat) {i : Nat} {y : V} (h : (steps 0 1 n)[i]? = some y) : i < n ∧ y = .int i := by
  have hi : i < n := by
    have := (List.getElem?_eq_some_iff.mp h).1
    rwa [steps_length] at this
  rw [steps_get _ _ _ _ hi] at h
  cases h
  exact ⟨hi, by simp⟩
noncomputable def vars (a n : Nat) : List Cell := (List.range n).map fun i => (0, ((a + i : Nat) : Int))
theorem vars_succ (a n : Nat) : vars a (n + 1) = vars a n ++ [(0, ((a + n : Nat) : Int))] := by simp [vars, List.range_succ]
theorem vars_length (a n : Nat) : (vars a n).length = n := by simp [vars]

section
variable {C : Cx} (hK : C.K = KK C.w.params) {σ : Sg} {st sd bk hp sk tr : Addr} {cells : List Cell}
include hK
theorem push_ok {c : Cell} (S : Sto σ st sd bk hp sk tr cells) (hl : cells.length < 1999) : WC C (lv 1).P 202 [.ref st, cv c] (fun x σ' => x = .int cells.length ∧ σ' = upd σ hp (.list ((cells ++ [c]).map cv))) σ := by
  refine S.x3 fun s1 s2 s3 s6 n1 n2 => ?_
  refine WC_def0K (fd := fd202) (body := bd202) (n := 0) (names := ["self", "cell"]) hK (at202 _) (cd202 _) rfl rfl rfl rfl (BindF_2 fun a b => rfl) (by kernel_rfl!) fun L hL Qp hQp => ?_
  refine S_cons ?_
  repeat' w_up
theorem new_var_ok (S : Sto σ st sd bk hp sk tr cells) (hl : cells.length < 1999) : WC C (lv 2).P 209 [.ref st] (fun x σ' => x = cv (0, cells.length) ∧ σ' = upd σ hp (.list ((cells ++ [(0, (cells.length : Int))]).map cv))) σ := by
  have S' := S
  refine S.x3 fun s1 s2 s3 s6 n1 n2 => ?_
  refine WC_def0K (fd := fd209) (body := bd209) (n := 1) (names := ["self"]) hK (at209 _) (cd209 _) rfl rfl rfl rfl (BindF_1 fun a => rfl) (by kernel_rfl!) fun L hL Qp hQp => ?_
  refine S_cons ?_
  repeat' w_up
  refine (push_ok hK (c := (0, (cells.length : Int))) S' hl).useV (by decide) ?_
  repeat' w_up

theorem reserve_ok {k : Nat} (S : Sto σ st sd bk hp sk tr cells) (hl : cells.length + k < 1999) : WC C (lv 1).P 216 [.ref st, .int k] (fun x σ' => x = .int cells.length ∧ σ' = upd σ hp (.list ((cells ++ vars cells.length k).map cv))) σ := by
  refine S.x3 fun s1 s2 s3 s6 n1 n2 => ?_
  refine WC_def0K (fd := fd216) (body := bd216) (n := 0) (names := ["self", "count"]) hK (at216 _) (cd216 _) rfl rfl rfl rfl (BindF_2 fun a b => rfl) (by kernel_rfl!) fun L hL Qp hQp => ?_
  refine S_cons ?_
  repeat' w_up
  refine S_For (.inl rfl) (I_range1 (by w_side) PyProof.Rows.boot_range (by decide) rfl ?_)
  repeat' w_up
  refine ⟨_, rfl, by (first | lia | omega), by (first | lia | omega), fun i l s => s = upd σ hp (.list ((cells ++ vars cells.length i).map cv)) ∧ l "self" = some (.ref st) ∧ l "first" = some (.int cells.length), ⟨?_, rfl, rfl⟩, fun _ _ _ _ => trivial, ?_, ?_⟩
  · have : cells ++ vars cells.length 0 = cells := by simp [vars]
    rw [this]
    funext b
    by_cases q : b = hp
    · subst q; rw [upd_same]; exact s3
    · rw [upd_ne _ _ q]
  · intro J jJ i y l s hy hI_
    refine xE0A2 hI_ fun e1 e2 e3 => ?_
    try clear hI_
    refine xE0A1 (steps_01 _ hy) fun hi hr1_ => ?_
    obtain rfl := hr1_
    subst e1
    repeat' w_up
    refine B_appC (cells := cells ++ vars cells.length i) (c := (0, (cells.length : Int) + i)) (upd_same _ _ _) (by rw [List.length_append, vars_length]; (first | lia | omega)) ⟨rfl, ?_⟩
    repeat' w_up
    refine jJ ⟨?_, e2, e3⟩
    rw [upd_upd, vars_succ, List.append_assoc]
    rfl
  · intro l s hI_
    refine xE0A2 hI_ fun e1 e2 e3 => ?_
    try clear hI_
    rw [steps_length] at e1
    subst e1
    repeat' w_up

theorem arg_ok {c d : Cell} {i b : Int} (S : Sto σ st sd bk hp sk tr cells) (hb : (if c.1 = 3 then c.2 else c.2 + 1) = b) (h0 : 0 ≤ b + i - 1) (hd : cells[(b + i - 1).toNat]? = some d) : WC C (lv 2).P 314 [.ref st, cv c, .int i] (fun x σ' => x = cv d ∧ σ' = σ) σ := by
  have S' := S
  refine S.x3 fun s1 s2 s3 s6 n1 n2 => ?_
  refine WC_def0K (fd := fd314) (body := bd314) (n := 1) (names := ["self", "cell", "i"]) hK (at314 _) (cd314 _) rfl rfl rfl rfl (BindF_3 fun a b c => rfl) (by kernel_rfl!) fun L hL Qp hQp => ?_
  refine S_cons ?_
  repeat' w_up
  refine (base_ok hK S').useV (by decide) ?_
  rw [hb]
  repeat' w_up

theorem new_block_lis (S : Sto σ st sd bk hp sk tr cells) (hl : cells.length < 1990) : WC C (lv 2).P 321 [.ref st, .int 0] (fun x σ' => x = cv (3, cells.length) ∧ σ' = upd σ hp (.list ((cells ++ vars cells.length 2).map cv))) σ := by
  have S' := S
  refine S.x3 fun s1 s2 s3 s6 n1 n2 => ?_
  refine WC_def0K (fd := fd321) (body := bd321) (n := 1) (names := ["self", "f"]) hK (at321 _) (cd321 _) rfl rfl rfl rfl (BindF_2 fun a b => rfl) (by kernel_rfl!) fun L hL Qp hQp => ?_
  refine S_cons ?_
  repeat' w_up
  refine (reserve_ok hK (k := 2) S' (by (first | lia | omega))).useV (by decide) ?_
  repeat' w_up
theorem new_block_str {f p : Cell} {bd fu fn tx an : Addr} {fs : List Cell} {w : Nat} (S : Sto σ st sd bk hp sk tr cells) (B : Boo σ bk bd tx an fu fn fs) (hl : cells.length + w < 1990) (hf : 0 < f.2) (hp' : fs[f.2.toNat]? = some p) (hw : p.2 = w) :
    WC C (lv 2).P 321 [.ref st, .int f.2] (fun x σ' => x = cv (2, cells.length) ∧ σ' = upd σ hp (.list ((cells ++ (6, f.2) :: vars (cells.length + 1) w).map cv))) σ := by
  have S' := S
  refine S.x3 fun s1 s2 s3 s6 n1 n2 => ?_
  have B' := B
  obtain ⟨b1, b2, b3, b4⟩ := B
  refine WC_def0K (fd := fd321) (body := bd321) (n := 1) (names := ["self", "f"]) hK (at321 _) (cd321 _) rfl rfl rfl rfl (BindF_2 fun a b => rfl) (by kernel_rfl!) fun L hL Qp hQp => ?_
  refine S_cons ?_
  repeat' w_up
  refine (arity_ok hK B' (by (first | lia | omega)) hp').useV (by decide) ?_
  rw [hw]
  repeat' w_up
  have e : (1 : Int) + (w : Int) = ((1 + w : Nat) : Int) := by (first | lia | omega)
  rw [e]
  refine (reserve_ok hK (k := 1 + w) S' (by (first | lia | omega))).useV (by decide) ?_
  have hv : vars cells.length (1 + w) = (0, (cells.length : Int)) :: vars (cells.length + 1) w := by
    unfold vars
    rw [Nat.add_comm 1 w, List.range_succ_eq_map]
    simp only [List.map_cons, List.map_map, Nat.add_zero]
    congr 1
    refine List.map_congr_left fun i _ => ?_
    show ((0 : Int), _) = ((0 : Int), _)
    congr 1
    push_cast
    (first | lia | omega)
  repeat' w_up
  refine Set_cells (d := (6, f.2)) (upd_same _ _ _) (by (first | lia | omega)) (by simp [vars_length]; (first | lia | omega)) (by simp [vars_length]; (first | lia | omega)) ?_
  rw [upd_upd]
  have hs : (cells ++ vars cells.length (1 + w)).set ((cells.length : Int)).toNat (6, f.2) = cells ++ (6, f.2) :: vars (cells.length + 1) w := by
    rw [hv]; simp
  rw [hs]
  repeat' w_up
end

section
variable {C : Cx} (hK : C.K = KK C.w.params) {σ : Sg} {st sd bk hp sk tr : Addr} {cells : List Cell}
include hK
theorem is_variable_ok {c : Cell} : WC C (lv 1).P 439 [cv c] (fun x σ' => x = .bool (decide (c.1 = 0 ∨ c.1 = 1)) ∧ σ' = σ) σ := by
  refine WC_def0K (fd := fd439) (body := bd439) (n := 0) (names := ["cell"]) hK (at439 _) (cd439 _) rfl rfl rfl rfl (BindF_1 fun a => rfl) (by kernel_rfl!) fun L hL Qp hQp => ?_
  refine S_cons ?_
  repeat' w_up
  all_goals exact ⟨_, fun _ _ h => h, by simp [retV]; (first | lia | omega), rfl⟩
theorem bind_checked_ok {c d : Cell} (S : Sto σ st sd bk hp sk tr cells) (hc : c.1 = 0) (h0 : 0 ≤ c.2) (hl : c.2 < cells.length) :
    WC C (lv 2).P 453 [.ref st, cv c, cv d, .bool false] (fun x σ' => x = .bool true ∧ σ' = upd σ hp (.list ((cells.set c.2.toNat d).map cv))) σ := by
  have S' := S
  refine S.x3 fun s1 s2 s3 s6 n1 n2 => ?_
  refine WC_def0K (fd := fd453) (body := bd453) (n := 1) (names := ["store", "variable", "value", "occurs"]) hK (at453 _) (cd453 _) rfl rfl rfl rfl (BindF_4 fun a b c d => rfl) (by kernel_rfl!) fun L hL Qp hQp => ?_
  refine S_cons ?_
  repeat' w_up
  refine (bind_ok hK S' hc h0 hl).useV (by decide) ?_
  repeat' w_up
theorem bind_pair_ok {c d : Cell} (S : Sto σ st sd bk hp sk tr cells) (hc : c.1 = 0) (hd : d.1 = 0) (h0 : 0 ≤ c.2) (hl : c.2 < cells.length) (hlt : d.2 < c.2) :
    WC C (lv 2).P 251 [.ref st, cv c, cv d] (fun x σ' => x = .none ∧ σ' = upd σ hp (.list ((cells.set c.2.toNat d).map cv))) σ := by
  have S' := S
  refine S.x3 fun s1 s2 s3 s6 n1 n2 => ?_
  have hne : c ≠ d := fun e => by rw [e] at hlt; (first | lia | omega)
  refine WC_def0K (fd := fd251) (body := bd251) (n := 1) (names := ["self", "c1", "c2"]) hK (at251 _) (cd251 _) rfl rfl rfl rfl (BindF_3 fun a b c => rfl) (by kernel_rfl!) fun L hL Qp hQp => ?_
  refine S_cons ?_
  repeat' w_up
  refine (bind_ok hK S' hc h0 hl).useV (by decide) ?_
  repeat' w_up
theorem pairset_ok (S : Sto σ st sd bk hp sk tr cells) : WC C (lv 2).P 407 [.ref st] (fun x σ' => (∃ a, x = .ref a) ∧ σ' = σ) σ := by
  refine S.x3 fun s1 s2 s3 s6 n1 n2 => ?_
  refine WC_new' (n_407 hK) fun a d ha hd hne => ?_
  refine WC_def0K (fd := fd397) (body := bd397) (n := 0) (names := ["self", "store"]) hK (at397 _) (cd397 _) rfl rfl rfl rfl (BindF_2 fun a b => rfl) (by kernel_rfl!) fun L hL Qp hQp => ?_
  refine S_cons ?_
  repeat' w_up
  refine ⟨σ, ?_, rfl, ⟨_, rfl⟩, rfl⟩
  show Sub _ _
  repeat' w_up

theorem unify_ok {k k' : Nat} {c c' d d' : Cell} (S : Sto σ st sd bk hp sk tr cells) (hc : Der cells k c c') (hd : Der cells k' d d') (h1 : c'.1 = 0) (h0 : 0 ≤ c'.2) (hl : c'.2 < cells.length) (h2 : (2 ≤ d'.1) ∨ (d'.1 = 0 ∧ d'.2 < c'.2)) :
    WC C (lv 3).P 446 [.ref st, cv c, cv d, .bool false] (fun x σ' => x = .bool true ∧ σ' = upd σ hp (.list ((cells.set c'.2.toNat d').map cv))) σ := by
  have S' := S
  obtain ⟨s1, s2, s3, s4, s5, s6, n1, n2, n3, n4⟩ := S
  have hne : c' ≠ d' := fun e => by rw [e] at h1 h2; (first | lia | omega)
  refine WC_def0K (fd := fd446) (body := bd446) (n := 2) (names := ["store", "c1", "c2", "occurs"]) hK (at446 _) (cd446 _) rfl rfl rfl rfl (BindF_4 fun a b c d => rfl) (by kernel_rfl!) fun L hL Qp hQp => ?_
  refine S_cons ?_
  repeat' w_up
  refine (pairset_ok hK S').use (by decide) fun x s hI_ => ?_
  refine Classical.byContradiction fun hG => ?_
  refine xE0A1 hI_ fun hr1_ e2 => ?_
  try clear hI_
  refine xE1A0 hr1_ fun m e1 => ?_
  try clear hr1_
  refine hG ?_
  clear hG
  subst e1 e2
  repeat' w_up
  rename_i w hw
  have nw : ∀ {b o}, s b = some o → b ≠ w := fun e => ne_fresh hw e
  refine S_While (fun n loc' σ' => loc' "store" = some (.ref st) ∧ loc' "work" = some (.ref w) ∧ loc' "occurs" = some (.bool false) ∧
    ((n = 1 ∧ σ' = upd s w (.list [.tup [cv c, cv d]])) ∨ (n = 0 ∧ σ' = upd (upd s hp (.list ((cells.set c'.2.toNat d').map cv))) w (.list [])))) 1 ⟨rfl, rfl, rfl, .inl ⟨rfl, rfl⟩⟩ fun J jJ n loc' σ' hI => ?_
  refine xE0A3 hI fun l1 l2 l3 hI => ?_
  rcases hI with ⟨rfl, rfl⟩ | ⟨rfl, rfl⟩
  · repeat' w_up
    have N1 := nw s1
    have N2 := nw s2
    have N3 := nw s3
    have e0 : upd (upd s w (.list [.tup [cv c, cv d]])) w (.list []) = upd s w (.list []) := upd_upd ..
    rw [e0]
    refine (deref_ok hK (upd_look N1 s1) (upd_look N2 s2) (upd_look N3 s3) hc (by first | exact lt_big (by assumption) (by rfl) | (first | lia | omega))).useV (by decide) ?_
    repeat' w_up
    refine (deref_ok hK (upd_look N1 s1) (upd_look N2 s2) (upd_look N3 s3) hd (by first | exact lt_big (by assumption) (by rfl) | (first | lia | omega))).useV (by decide) ?_
    have T : Sto (upd s w (.list [])) st sd bk hp sk tr cells := ⟨upd_look N1 s1, upd_look N2 s2, upd_look N3 s3, upd_look (nw s4) s4, upd_look (nw s5) s5, s6, n1, n2, n3, n4⟩
    have fin : upd (upd s w (.list [])) hp (.list ((cells.set c'.2.toNat d').map cv)) = upd (upd s hp (.list ((cells.set c'.2.toNat d').map cv))) w (.list []) := upd_comm _ (Ne.symm N3) _ _
    repeat' w_up
    refine (is_variable_ok hK).useV (by decide) ?_
    rw [decide_eq_true (by (first | lia | omega) : c'.1 = 0 ∨ c'.1 = 1)]
    repeat' w_up
    refine (is_variable_ok hK).useV (by decide) ?_
    rcases h2 with h2 | ⟨h2, h3⟩
    · rw [decide_eq_false (by (first | lia | omega) : ¬ (d'.1 = 0 ∨ d'.1 = 1))]
      repeat' w_up
      refine (bind_checked_ok hK T h1 h0 hl).useV (by decide) ?_
      repeat' w_up
      exact ⟨0, by (first | lia | omega), jJ ⟨l1, l2, l3, .inr ⟨rfl, fin⟩⟩⟩
    · rw [decide_eq_true (by (first | lia | omega) : d'.1 = 0 ∨ d'.1 = 1)]
      repeat' w_up
      refine (bind_pair_ok hK T h1 h2 h0 hl h3).useV (by decide) ?_
      repeat' w_up
      exact ⟨0, by (first | lia | omega), jJ ⟨l1, l2, l3, .inr ⟨rfl, fin⟩⟩⟩
  · have nw' : (upd s hp (.list ((cells.set c'.2.toNat d').map cv))) w = none := by rw [upd_ne _ _ (Ne.symm (nw s3))]; exact hw
    repeat' w_up
end


theorem steps_down (n : Nat) {i : Nat} {y : V} (h : (steps ((n : Int) - 1) (-1) n)[i]? = some y) : i < n ∧ y = .int ((n : Int) - 1 - i) := by
  have hi : i < n := by
    have := (List.getElem?_eq_some_iff.mp h).1
    rwa [steps_length] at this
  rw [steps_get _ _ _ _ hi] at h
  cases h
  exact ⟨hi, by congr 1; (first | lia | omega)⟩
section
variable {C : Cx} (hK : C.K = KK C.w.params) {σ : Sg} {st sd bk hp sk tr bd fu fn tx an : Addr} {cells fs : List Cell}
include hK
theorem push_arguments_ok {c : Cell} {as : List Cell} {wk : Addr} {todo : List Cell} (S : Sto σ st sd bk hp sk tr cells) (B : Boo σ bk bd tx an fu fn fs) (hw : Wid cells fs c as.length) (ha : ArgsAre cells c as)
    (W : σ wk = some (.list (todo.map cv))) (hl : todo.length + as.length ≤ 100000) (hn : wk ≠ hp) :
    WC C (lv 3).P 418 [.ref st, cv c, .ref wk] (fun x σ' => x = .none ∧ σ' = upd σ wk (.list ((todo ++ as.reverse).map cv))) σ := by
  have S' := S
  have B' := B
  refine S.x3 fun s1 s2 s3 s6 n1 n2 => ?_
  refine WC_def0K (fd := fd418) (body := bd418) (n := 2) (names := ["store", "cell", "work"]) hK (at418 _) (cd418 _) rfl rfl rfl rfl (BindF_3 fun a b c => rfl) (by kernel_rfl!) fun L hL Qp hQp => ?_
  refine S_cons ?_
  repeat' w_up
  refine (base_ok hK S').useV (by decide) ?_
  repeat' w_up
  refine S_For (.inl rfl) (I_range3 (by w_side) PyProof.Rows.boot_range (by decide) rfl ?_)
  repeat' w_up
  refine (width_ok hK S' B' hw).useV (by decide) ?_
  repeat' w_up
  have hlen : as.length ≤ 100000 := by (first | lia | omega)
  refine ⟨_, rfl, by (first | lia | omega), by (first | lia | omega), fun i l s => s = upd σ wk (.list ((todo ++ as.reverse.take i).map cv)) ∧ l "store" = some (.ref st) ∧ l "place" = some (.int (bas c)) ∧ l "work" = some (.ref wk), ⟨?_, rfl, rfl, rfl⟩, fun _ _ _ _ => trivial, ?_, ?_⟩
  · rw [List.take_zero, List.append_nil, upd_id W]
  · intro J jJ i y l s hy hI_
    refine xE0A3 hI_ fun e1 e2 e3 e4 => ?_
    try clear hI_
    have en : ((as.length : Int) - 1 + 1).toNat = as.length := by (first | lia | omega)
    rw [en] at hy
    refine xE0A1 (steps_down _ hy) fun hi hr1_ => ?_
    obtain rfl := hr1_
    subst e1
    have N1 : st ≠ wk := fun q => by rw [q, W] at s1; cases s1
    have N2 : sd ≠ wk := fun q => by rw [q, W] at s2; cases s2
    have N3 : hp ≠ wk := Ne.symm hn
    have g1 := ha.2 (as.length - 1 - i) (by (first | lia | omega))
    have g2 : (bas c + ((as.length : Int) - 1 - (i : Int))).toNat = (bas c + ((as.length - 1 - i : Nat) : Int)).toNat := by congr 1; (first | lia | omega)
    have g3 : cells[(bas c + ((as.length : Int) - 1 - (i : Int))).toNat]? = some (as[as.length - 1 - i]'(by (first | lia | omega))) := by rw [g2, g1]; exact List.getElem?_eq_getElem (by (first | lia | omega))
    have g4 := ha.1
    repeat' w_up
    refine jJ ⟨?_, e2, e3, e4⟩
    rw [upd_upd]
    have : as.reverse.take (i + 1) = as.reverse.take i ++ [as[as.length - 1 - i]'(by (first | lia | omega))] := by
      rw [List.take_add_one]
      congr 1
      rw [List.getElem?_reverse (by (first | lia | omega)), List.getElem?_eq_getElem (by (first | lia | omega))]
      rfl
    rw [this]; simp
  · intro l s hI_
    refine xE0A3 hI_ fun e1 e2 e3 e4 => ?_
    try clear hI_
    rw [steps_length] at e1
    have en : ((as.length : Int) - 1 + 1).toNat = as.length := by (first | lia | omega)
    rw [en, List.take_of_length_le (by simp)] at e1
    subst e1
    repeat' w_up

theorem is_comp_V {c : Cell} (S : Sto σ st sd bk hp sk tr cells) {b : Bool} (hb : (c.1 = 2 ∨ c.1 = 3) ↔ b = true) : WC C (lv 1).P 286 [.ref st, cv c] (fun x σ' => x = .bool b ∧ σ' = σ) σ :=
  (is_compound_ok hK S).use (by decide) fun x s ⟨e1, e2⟩ => ⟨by rw [e1]; congr 1; cases b <;> simp_all, e2⟩
end


section
variable {C : Cx} (hK : C.K = KK C.w.params) {σ : Sg} {st sd bk hp sk tr bd fu fn tx an : Addr} {cells fs : List Cell}
include hK
theorem ground_ok {g : Gr} {c : Cell} {t₀ : Tgt} (S : Sto σ st sd bk hp sk tr cells) (B : Boo σ bk bd tx an fu fn fs) (G : GrOk g cells fs) (hc : Lead g cells c t₀) (hT : ∀ t, Rt g t₀ t → ∀ k, t = .node k → k < g.T)
    (r : Bool) (hr : r = true ↔ ∀ t, Rt g t₀ t → ∀ a, t ≠ .var a) : WC C (lv 4).P 467 [.ref st, cv c] (fun x σ' => x = .bool r ∧ σ' = σ) σ := by
  have S' := S
  have B' := B
  obtain ⟨s1, s2, s3, s4, s5, s6, n1, n2, n3, n4⟩ := S
  obtain ⟨b1, b2, b3, b4⟩ := B
  refine WC_def0K (fd := fd467) (body := bd467) (n := 3) (names := ["store", "cell"]) hK (at467 _) (cd467 _) rfl rfl rfl rfl (BindF_2 fun a b => rfl) (by kernel_rfl!) fun L hL Qp hQp => ?_
  refine S_cons ?_
  repeat' w_up
  rename_i m hm w hw
  have hwσ : σ w = none := by
    cases q : σ w with
    | none => rfl
    | some o => rw [upd_ne _ _ (ne_fresh hm q), q] at hw; cases hw
  have hwm : w ≠ m := fun q => by rw [q, upd_same] at hw; cases hw
  have nw : ∀ {b o}, σ b = some o → b ≠ w := fun e => ne_fresh hwσ e
  have nm : ∀ {b o}, σ b = some o → b ≠ m := fun e => ne_fresh hm e
  refine S_While (fun n loc' σ' => loc' "store" = some (.ref st) ∧ loc' "work" = some (.ref w) ∧ loc' "met" = some (.ref m) ∧
    ∃ (M : Int → Bool) (cnt : Nat) (stk : List Cell) (W : List Tgt), All2 (Lead g cells) stk W ∧ GI g t₀ M W ∧ n = 4 * unmet g M + W.length ∧ cnt + unmet g M ≤ 5 ∧ W.length ≤ 1 + 3 * cnt ∧
      σ' = upd (upd σ m (.set M cnt)) w (.list (stk.reverse.map cv))) (4 * unmet g (fun _ => false) + 1)
    ⟨rfl, rfl, rfl, fun _ => false, 0, [c], [t₀], .cons hc .nil, ⟨fun t ht => by rw [List.mem_singleton.mp ht]; exact .root, fun k _ h => (nomatch h), .inl (.head _)⟩, rfl, ?_, by simp, rfl⟩ fun J jJ n loc' σ' hI => ?_
  · have : unmet g (fun _ => false) ≤ g.T := by unfold unmet; exact Nat.le_trans (List.length_filter_le _ _) (by simp)
    have := G.small
    (first | lia | omega)
  refine Classical.byContradiction fun hG => ?_
  refine xE0A3 hI fun l1 l2 l3 hz1_ => ?_
  try clear hI
  refine xE4A5 hz1_ fun M cnt stk W hA hGI hn hcnt hWl hr2_ => ?_
  clear hz1_
  obtain rfl := hr2_
  refine hG ?_
  clear hG
  have hlen := hA.length
  have T1 : ∀ {b o} (lst : List V) (M' : Int → Bool) (cn : Nat), σ b = some o → upd (upd σ m (.set M' cn)) w (.list lst) b = some o := fun lst M' cn e => upd_look (nw e) (upd_look (nm e) e)
  cases hA with
  | nil =>
    have hrt : r = true := hr.mpr fun t ht a e => by have := hGI.fin hT t ht; rw [e] at this; exact this
    subst hrt
    repeat' w_up
  | @cons a t stk W ha hA =>
    have hs : stk.length ≤ 16 := by have := hA.length; simp only [List.length_cons] at hWl; (first | lia | omega)
    have eq : (a :: stk).reverse.map cv = stk.reverse.map cv ++ [cv a] := by simp
    rw [eq]
    repeat' w_up
    rw [upd_upd]
    refine xE0A1 ha fun hr3_ hlt => ?_
    try clear ha
    refine xE1A0 hr3_ fun k hk => ?_
    try clear hr3_
    have hd : ∀ P, (∀ x s', (x = cv (g.cell t) ∧ s' = upd (upd σ m (.set M cnt)) w (.list (stk.reverse.map cv))) → P x s') → WC C (lv 3).P 230 [.ref st, cv a] P (upd (upd σ m (.set M cnt)) w (.list (stk.reverse.map cv))) := fun P hP =>
      (deref_ok hK (T1 _ _ _ s1) (T1 _ _ _ s2) (T1 _ _ _ s3) hk (by first | exact lt_big (by assumption) (by rfl) | (first | lia | omega))).use (by decide) hP
    refine hd _ fun x s' ⟨e1, e2⟩ => ?_
    subst e1; obtain rfl := e2.symm
    repeat' w_up
    refine (is_variable_ok hK).useV (by decide) ?_
    have hrch := hGI.reach t (.head _)
    have S2 : Sto (upd (upd σ m (.set M cnt)) w (.list (stk.reverse.map cv))) st sd bk hp sk tr cells := ⟨T1 _ _ _ s1, T1 _ _ _ s2, T1 _ _ _ s3, T1 _ _ _ s4, T1 _ _ _ s5, s6, n1, n2, n3, n4⟩
    cases t with
    | var a' =>
      have hrf : r = false := by
        cases r with
        | false => rfl
        | true => exact absurd rfl (hr.mp rfl _ hrch a')
      subst hrf
      rw [decide_eq_true (.inl rfl : (g.cell (.var a')).1 = 0 ∨ (g.cell (.var a')).1 = 1)]
      repeat' w_up
    | nil =>
      rw [decide_eq_false (by simp [Gr.cell] : ¬ ((g.cell .nil).1 = 0 ∨ (g.cell .nil).1 = 1))]
      repeat' w_up
      refine (is_comp_V hK S2 (b := false) (by simp [Gr.cell])).useV (by decide) ?_
      repeat' w_up
      exact ⟨_, by rw [hn]; simp, jJ ⟨l1, l2, l3, M, cnt, stk, W, hA, hGI.drop trivial, rfl, hcnt, by simp at hWl; (first | lia | omega), rfl⟩⟩
    | num =>
      rw [decide_eq_false (by simp [Gr.cell] : ¬ ((g.cell .num).1 = 0 ∨ (g.cell .num).1 = 1))]
      repeat' w_up
      refine (is_comp_V hK S2 (b := false) (by simp [Gr.cell])).useV (by decide) ?_
      repeat' w_up
      exact ⟨_, by rw [hn]; simp, jJ ⟨l1, l2, l3, M, cnt, stk, W, hA, hGI.drop trivial, rfl, hcnt, by simp at hWl; (first | lia | omega), rfl⟩⟩
    | node j =>
      have hj := hlt j rfl
      have hcj := G.comp j hj
      have ec : g.cell (.node j) = g.nd j := rfl
      rw [ec]
      rw [decide_eq_false (by (first | lia | omega) : ¬ ((g.nd j).1 = 0 ∨ (g.nd j).1 = 1))]
      repeat' w_up
      refine (is_comp_V hK S2 (b := true) ⟨fun _ => rfl, fun _ => hcj⟩).useV (by decide) ?_
      repeat' w_up
      refine O_notIn_set (upd_look hwm.symm (upd_same _ _ _)) ⟨_, rfl, ?_⟩
      cases hM : M (g.nd j).2 with
      | true =>
        repeat' w_up
        exact ⟨_, by rw [hn]; simp, jJ ⟨l1, l2, l3, M, cnt, stk, W, hA, hGI.drop hM, rfl, hcnt, by simp at hWl; (first | lia | omega), rfl⟩⟩
      | false =>
        refine xE1A1 (G.args j hj) fun as ha1 ha2 => ?_
        have hw3 := G.w3 j hj
        have hal := ha2.length
        have hun := unmet_visit hj hM
        repeat' w_up
        refine B_add (upd_look hwm.symm (upd_same _ _ _)) (by (first | lia | omega)) ⟨rfl, ?_⟩
        repeat' w_up
        have ex : upd (upd (upd σ m (.set M cnt)) w (.list (stk.reverse.map cv))) m (.set (fun i => M i || decide (i = (g.nd j).2)) (cnt + 1)) = upd (upd σ m (.set (fun i => M i || decide (i = (g.nd j).2)) (cnt + 1))) w (.list (stk.reverse.map cv)) := by
          rw [upd_comm _ hwm, upd_upd]
        rw [ex]
        have S3 : Sto (upd (upd σ m (.set (fun i => M i || decide (i = (g.nd j).2)) (cnt + 1))) w (.list (stk.reverse.map cv))) st sd bk hp sk tr cells := ⟨T1 _ _ _ s1, T1 _ _ _ s2, T1 _ _ _ s3, T1 _ _ _ s4, T1 _ _ _ s5, s6, n1, n2, n3, n4⟩
        have B3 : Boo (upd (upd σ m (.set (fun i => M i || decide (i = (g.nd j).2)) (cnt + 1))) w (.list (stk.reverse.map cv))) bk bd tx an fu fn fs := ⟨T1 _ _ _ b1, T1 _ _ _ b2, T1 _ _ _ b3, b4⟩
        refine (push_arguments_ok hK (as := as) (todo := stk.reverse) S3 B3 (by rw [hal]; exact G.wid j hj) ha1 (upd_same _ _ _) (by simp; (first | lia | omega)) (Ne.symm (nw s3))).useV (by decide) ?_
        refine ⟨rfl, ?_⟩
        repeat' w_up
        refine ⟨_, ?_, jJ ⟨l1, l2, l3, _, cnt + 1, as ++ stk, g.ch j ++ W, ha2.append hA, hGI.visit hj G.inj, rfl, by (first | lia | omega), ?_, ?_⟩⟩
        · rw [hn]; simp; (first | lia | omega)
        · simp at hWl ⊢; (first | lia | omega)
        · rw [upd_upd, List.reverse_append]
end

theorem wid3 {cells fs : List Cell} {c : Cell} {w : Nat} (h : Wid cells fs c w) (hc : c.1 = 3) : w = 2 ∧ 0 ≤ c.2 := by
  cases h with
  | lis h1 h2 => exact ⟨rfl, h2⟩
  | str h1 => (first | lia | omega)
section
variable {C : Cx} (hK : C.K = KK C.w.params) {σ : Sg} {st sd bk hp sk tr bd fu fn tx an : Addr} {cells fs : List Cell}
include hK
theorem list_cells_ok {g : Gr} {c : Cell} {t₀ : Tgt} (S : Sto σ st sd bk hp sk tr cells) (G : GrOk g cells fs) (hc : Lead g cells c t₀) :
    WC C (lv 2).P 357 [.ref st, cv c] (fun x σ' => ∃ f t, x = .tup [.ref f, cv (g.cell t)] ∧ (g.cell t = (4, 0) ↔ ∃ n, ToNil g n t₀) ∧ σ' = σ) σ := by
  have S' := S
  refine S.x3 fun s1 s2 s3 s6 n1 n2 => ?_
  refine Classical.byContradiction fun hG => ?_
  refine xE0A1 hc fun hr1_ hlt0 => ?_
  try clear hc
  refine xE1A0 hr1_ fun k0 hk0 => ?_
  try clear hr1_
  refine hG ?_
  clear hG
  refine WC_def0K (fd := fd357) (body := bd357) (n := 1) (names := ["self", "cell"]) hK (at357 _) (cd357 _) rfl rfl rfl rfl (BindF_2 fun a b => rfl) (by kernel_rfl!) fun L hL Qp hQp => ?_
  refine S_cons ?_
  repeat' w_up
  rename_i f hf m hm
  have hmσ : σ m = none := by
    cases q : σ m with
    | none => rfl
    | some o => rw [upd_ne _ _ (ne_fresh hf q), q] at hm; cases hm
  have hmf : m ≠ f := fun q => by rw [q, upd_same] at hm; cases hm
  have nm : ∀ {b o}, σ b = some o → b ≠ m := fun e => ne_fresh hmσ e
  have nf : ∀ {b o}, σ b = some o → b ≠ f := fun e => ne_fresh hf e
  have T1 : ∀ {b o} (l : List V) (M' : Int → Bool) (cn : Nat), σ b = some o → upd (upd σ f (.list l)) m (.set M' cn) b = some o := fun l M' cn e => upd_look (nm e) (upd_look (nf e) e)
  refine (deref_ok hK (T1 _ _ _ s1) (T1 _ _ _ s2) (T1 _ _ _ s3) hk0 (by first | exact lt_big (by assumption) (by rfl) | (first | lia | omega))).useV (by decide) ?_
  repeat' w_up
  refine S_While (fun n loc' σ' => loc' "self" = some (.ref st) ∧ loc' "found" = some (.ref f) ∧ loc' "seen" = some (.ref m) ∧
    ∃ (M : Int → Bool) (cnt : Nat) (l : List V) (t : Tgt), loc' "cell" = some (cv (g.cell t)) ∧ LI g t₀ M t ∧ n = unmet g M ∧ cnt + unmet g M ≤ 5 ∧ l.length ≤ cnt ∧
      σ' = upd (upd σ f (.list l)) m (.set M cnt)) (unmet g (fun _ => false))
    ⟨rfl, rfl, rfl, fun _ => false, 0, [], t₀, rfl, ⟨Iff.rfl, fun k _ h => (nomatch h), hlt0⟩, rfl, ?_, Nat.le_refl _, rfl⟩ fun J jJ n loc' σ' hI => ?_
  · have : unmet g (fun _ => false) ≤ g.T := by unfold unmet; exact Nat.le_trans (List.length_filter_le _ _) (by simp)
    have := G.small
    (first | lia | omega)
  refine Classical.byContradiction fun hG => ?_
  refine xE0A3 hI fun l1 l2 l3 hz2_ => ?_
  try clear hI
  refine xE4A5 hz2_ fun M cnt l t l4 hL hn hcnt hll hr3_ => ?_
  clear hz2_
  obtain rfl := hr3_
  refine hG ?_
  clear hG
  by_cases h3 : (g.cell t).1 = 3
  · obtain ⟨k, rfl⟩ : ∃ k, t = .node k := by cases t <;> first | exact ⟨_, rfl⟩ | (simp [Gr.cell] at h3)
    have hk := hL.lt k rfl
    have ec : g.cell (.node k) = g.nd k := rfl
    rw [ec] at l4 h3
    repeat' w_up
    refine O_notIn_set (upd_same _ _ _) ⟨_, rfl, ?_⟩
    cases hM : M (g.nd k).2 with
    | true =>
      repeat' w_up
      refine ⟨σ, (show Sub _ _ from ?_), f, .node k, rfl, ⟨fun h => ?_, fun h => absurd h (hL.loop hM)⟩, rfl⟩
      · repeat' w_up
      · have e : g.nd k = (4, 0) := h
        rw [e] at h3; simp at h3
    | false =>
      refine Classical.byContradiction fun hG => ?_
      refine xE1A1 (G.args k hk) fun as ha1 ha2 => ?_
      refine xE0A1 (wid3 (G.wid k hk) h3) fun w2 hk2 => ?_
      refine hG ?_
      clear hG
      have hal := ha2.length
      have hun := unmet_visit hk hM
      obtain ⟨t0, ht0⟩ : ∃ t0, (g.ch k)[0]? = some t0 := ⟨_, List.getElem?_eq_getElem (by (first | lia | omega))⟩
      obtain ⟨t1, ht1⟩ : ∃ t1, (g.ch k)[1]? = some t1 := ⟨_, List.getElem?_eq_getElem (by (first | lia | omega))⟩
      refine Classical.byContradiction fun hG => ?_
      refine xE1A2 (ha2.get ht0) fun a0 ea0 hr4_ lt0 => ?_
      refine xE1A0 hr4_ fun d0 hd0 => ?_
      try clear hr4_
      refine xE1A2 (ha2.get ht1) fun a1 ea1 hr5_ lt1 => ?_
      refine xE1A0 hr5_ fun d1 hd1 => ?_
      try clear hr5_
      refine hG ?_
      clear hG
      have hb : bas (g.nd k) = (g.nd k).2 := by unfold bas; rw [if_pos h3]
      have c0 : cells[(g.nd k).2.toNat]? = some a0 := by have := ha1.2 0 (by (first | lia | omega)); rw [hb, ea0] at this; simpa using this
      have c1 : cells[((g.nd k).2 + 1).toNat]? = some a1 := by have := ha1.2 1 (by (first | lia | omega)); rw [hb, ea1] at this; simpa using this
      repeat' w_up
      refine B_add (upd_same _ _ _) (by (first | lia | omega)) ⟨rfl, ?_⟩
      rw [upd_upd]
      repeat' w_up
      refine (deref_ok hK (T1 _ _ _ s1) (T1 _ _ _ s2) (T1 _ _ _ s3) hd0 (by first | exact lt_big (by assumption) (by rfl) | (first | lia | omega))).useV (by decide) ?_
      repeat' w_up
      have ex : ∀ (l l' : List V) (M' : Int → Bool) (cn : Nat), upd (upd (upd σ f (.list l)) m (.set M' cn)) f (.list l') = upd (upd σ f (.list l')) m (.set M' cn) := fun l l' M' cn => by rw [upd_comm _ hmf, upd_upd]
      rw [ex]
      refine (deref_ok hK (T1 _ _ _ s1) (T1 _ _ _ s2) (T1 _ _ _ s3) hd1 (by first | exact lt_big (by assumption) (by rfl) | (first | lia | omega))).useV (by decide) ?_
      repeat' w_up
      exact ⟨_, by rw [hn]; exact hun, jJ ⟨l1, l2, l3, _, cnt + 1, _, t1, rfl, hL.next h3 ht1 lt1 G.inj, rfl, by (first | lia | omega), by simp; (first | lia | omega), rfl⟩⟩
  · have hend : g.cell t = (4, 0) ↔ ∃ n, ToNil g n t₀ := by
      rw [hL.same]
      constructor
      · intro h; cases t with
        | nil => exact ⟨0, .nil⟩
        | node k => have := G.comp k (hL.lt k rfl); have e : g.nd k = (4, 0) := h; rw [e] at this; simp at this
        | num => simp [Gr.cell] at h
        | var a => simp [Gr.cell] at h
      · rintro ⟨n, hn⟩; cases hn with
        | nil => rfl
        | step a _ _ => exact absurd a h3
    repeat' w_up
    refine ⟨σ, (show Sub _ _ from ?_), f, t, rfl, hend, rfl⟩
    repeat' w_up
end

structure Ars (σ : Sg) (ar ad xl st : Addr) (gA : Str → Option V) (nA : Nat) (xs : List V) (x1 : Cell) : Prop where
  a1 : σ ar = some (.inst 647 ad)
  a2 : σ ad = some (.ns gA nA)
  a3 : gA "store" = some (.ref st)
  a4 : gA "x" = some (.ref xl)
  a5 : gA "arg" = none
  a6 : σ xl = some (.list xs)
  a7 : xs[1]? = some (cv x1)
  a8 : xs.length ≤ 1000
theorem truthL {σ : Sg} {a : Addr} {vs : List V} (e : σ a = some (.list vs)) : truthOf σ (.ref a) = some (!vs.isEmpty) := by unfold truthOf; dsimp only; rw [e]
inductive RepW (g : Gr) (cells : List Cell) : V → Wk → Prop
  | ent {a t} : Lead g cells a t → RepW g cells (.tup [.bool true, cv a]) (.ent t)
  | ext {k} : k < g.T → RepW g cells (.tup [.bool false, cv (g.nd k)]) (.ext k)
theorem RepW.rev {g : Gr} {cells : List Cell} {as : List Cell} {ts : List Tgt} (h : All2 (Lead g cells) as ts) : All2 (RepW g cells) ((as.map fun a => V.tup [.bool true, cv a]).reverse) (ts.reverse.map .ent) := by
  induction h with
  | nil => exact .nil
  | cons a _ ih =>
    rw [List.map_cons, List.reverse_cons, List.reverse_cons, List.map_append]
    exact ih.append (.cons (.ent a) .nil)
theorem filter_le {α : Type} (p q : α → Bool) : ∀ (l : List α), (∀ x ∈ l, q x = true → p x = true) → (l.filter q).length ≤ (l.filter p).length
  | [], _ => by simp
  | b :: l, hl => by
    have := filter_le p q l (fun x hx => hl x (.tail _ hx))
    by_cases hb : q b = true
    · rw [List.filter_cons_of_pos hb, List.filter_cons_of_pos (hl b (.head _) hb)]; simpa using this
    · rw [List.filter_cons_of_neg (by simpa using hb)]
      by_cases hp : p b = true
      · rw [List.filter_cons_of_pos hp]; simp; (first | lia | omega)
      · rw [List.filter_cons_of_neg (by simpa using hp)]; exact this
theorem white_leave (g : Gr) (s : Int → Int) (i : Int) : white g (fun j => if j = i then 2 else s j) ≤ white g s := by
  unfold white
  refine filter_le _ _ _ fun x _ hx => ?_
  dsimp only at hx
  split at hx
  · simp at hx
  · exact hx
noncomputable def stF (s : Int → Int) : Int → Option V := fun i => if s i = 0 then none else some (.int (s i))
theorem stF_set (s : Int → Int) (i v : Int) (hv : v ≠ 0) : (fun j => if j = i then some (.int v) else stF s j) = stF (fun j => if j = i then v else s j) := by
  funext j
  unfold stF
  by_cases q : j = i
  · simp [q, hv]
  · simp [q]
theorem stF_get (s : Int → Int) (i : Int) : (stF s i).getD (.int 0) = .int (s i) := by
  unfold stF
  split
  · rename_i h; rw [h]; rfl
  · rfl
section
variable {C : Cx} (hK : C.K = KK C.w.params) {σ : Sg} {st sd bk hp sk tr bd fu fn tx an ar ad xl : Addr} {cells fs : List Cell} {gA : Str → Option V} {nA : Nat} {xs : List V} {x1 : Cell}
include hK
theorem areas_arg_ok {k : Nat} {d : Cell} (S : Sto σ st sd bk hp sk tr cells) (A : Ars σ ar ad xl st gA nA xs x1) (hd : Der cells k x1 d) (hd1 : d.1 ≠ 1) : WC C (lv 3).P 532 [.ref ar, .int 1] (fun x σ' => x = cv d ∧ σ' = σ) σ := by
  have S' := S
  refine S.x3 fun s1 s2 s3 s6 n1 n2 => ?_
  obtain ⟨a1, a2, a3, a4, a5, a6, a7, a8⟩ := A
  refine WC_def0K (fd := fd532) (body := bd532) (n := 2) (names := ["self", "i"]) hK (at532 _) (cd532 _) rfl rfl rfl rfl (BindF_2 fun a b => rfl) (by kernel_rfl!) fun L hL Qp hQp => ?_
  refine S_cons ?_
  repeat' w_up
  refine O_sub_list a6 (by decide) (by decide) a7 ?_
  repeat' w_up
  refine (globalise_ok hK S' hd hd1).useV (by decide) ?_
  repeat' w_up

theorem pred_ground_ok {g : Gr} {t₀ : Tgt} {k : Nat} (S : Sto σ st sd bk hp sk tr cells) (B : Boo σ bk bd tx an fu fn fs) (A : Ars σ ar ad xl st gA nA xs x1) (G : GrOk g cells fs) (hx : Der cells k x1 (g.cell t₀)) (h1 : (g.cell t₀).1 ≠ 1) (hc : Lead g cells (g.cell t₀) t₀) (hT : ∀ t, Rt g t₀ t → ∀ k, t = .node k → k < g.T)
    (r : Bool) (hr : r = true ↔ ∀ t, Rt g t₀ t → ∀ a, t ≠ .var a) : WC C (lv 5).P 482 [.ref ar] (fun x σ' => x = .bool r ∧ σ' = σ) σ := by
  have S' := S
  have A' := A
  refine S.x3 fun s1 s2 s3 s6 n1 n2 => ?_
  obtain ⟨a1, a2, a3, a4, a5, a6, a7, a8⟩ := A
  refine WC_def0K (fd := fd482) (body := bd482) (n := 4) (names := ["m"]) hK (at482 _) (cd482 _) rfl rfl rfl rfl (BindF_1 fun a => rfl) (by kernel_rfl!) fun L hL Qp hQp => ?_
  refine S_cons ?_
  repeat' w_up
  refine (areas_arg_ok hK S' A' hx h1).useV (by decide) ?_
  repeat' w_up
  refine (ground_ok hK S' B G hc hT r hr).useV (by decide) ?_
  repeat' w_up

theorem pred_acyclic_ok {g : Gr} {t₀ : Tgt} {k : Nat} (S : Sto σ st sd bk hp sk tr cells) (B : Boo σ bk bd tx an fu fn fs) (A : Ars σ ar ad xl st gA nA xs x1) (G : GrOk g cells fs) (hx : Der cells k x1 (g.cell t₀)) (h1 : (g.cell t₀).1 ≠ 1) (hc : Lead g cells (g.cell t₀) t₀) (hT : ∀ k, k < g.T → ∀ j, .node j ∈ g.ch k → j < g.T)
    (r : Bool) (hr : r = true ↔ AcT g t₀) : WC C (lv 5).P 489 [.ref ar] (fun x σ' => x = .bool r ∧ σ' = σ) σ := by
  have S' := S
  have B' := B
  have A' := A
  obtain ⟨s1, s2, s3, s4, s5, s6, n1, n2, n3, n4⟩ := S
  obtain ⟨a1, a2, a3, a4, a5, a6, a7, a8⟩ := A
  obtain ⟨b1, b2, b3, b4⟩ := B
  refine WC_def0K (fd := fd489) (body := bd489) (n := 4) (names := ["m"]) hK (at489 _) (cd489 _) rfl rfl rfl rfl (BindF_1 fun a => rfl) (by kernel_rfl!) fun L hL Qp hQp => ?_
  refine S_cons ?_
  repeat' w_up
  refine W_Dict (.dictI (fun _ => none) 0) ⟨rfl, rfl⟩ fun m hm => ?_
  repeat' w_up
  have nm : ∀ {b o}, σ b = some o → b ≠ m := fun e => ne_fresh hm e
  have A2 : Ars (upd σ m (.dictI (fun _ => none) 0)) ar ad xl st gA nA xs x1 := ⟨upd_look (nm a1) a1, upd_look (nm a2) a2, a3, a4, a5, upd_look (nm a6) a6, a7, a8⟩
  have S2 : Sto (upd σ m (.dictI (fun _ => none) 0)) st sd bk hp sk tr cells := ⟨upd_look (nm s1) s1, upd_look (nm s2) s2, upd_look (nm s3) s3, upd_look (nm s4) s4, upd_look (nm s5) s5, s6, n1, n2, n3, n4⟩
  refine (areas_arg_ok hK S2 A2 hx h1).useV (by decide) ?_
  repeat' w_up
  rename_i w hw
  have hwσ : σ w = none := by
    cases q : σ w with
    | none => rfl
    | some o => rw [upd_ne _ _ (ne_fresh hm q), q] at hw; cases hw
  have hwm : w ≠ m := fun q => by rw [q, upd_same] at hw; cases hw
  have nw : ∀ {b o}, σ b = some o → b ≠ w := fun e => ne_fresh hwσ e
  have T1 : ∀ {b o} (lst : List V) (f : Int → Option V) (cn : Nat), σ b = some o → upd (upd σ m (.dictI f cn)) w (.list lst) b = some o := fun lst f cn e => upd_look (nw e) (upd_look (nm e) e)
  have sw : ∀ (l : List V) (f f' : Int → Option V) (cn cn' : Nat), upd (upd (upd σ m (.dictI f cn)) w (.list l)) m (.dictI f' cn') = upd (upd σ m (.dictI f' cn')) w (.list l) := fun l f f' cn cn' => by rw [upd_comm _ hwm, upd_upd]
  have sT := G.small
  refine S_While (fun n loc' σ' => loc' "store" = some (.ref st) ∧ loc' "state" = some (.ref m) ∧ loc' "work" = some (.ref w) ∧
    ∃ (s : Int → Int) (cnt : Nat) (items : List V) (W : List Wk) (path : List Nat), All2 (RepW g cells) items W ∧ DI g t₀ s W path ∧ (∀ i, s i = 0 ∨ s i = 1 ∨ s i = 2) ∧ n = 5 * white g s + W.length ∧ cnt + n ≤ 100 ∧
      σ' = upd (upd σ m (.dictI (stF s) cnt)) w (.list items.reverse)) (5 * white g (fun _ => 0) + 1)
    ⟨rfl, rfl, rfl, fun _ => 0, 0, [.tup [.bool true, cv (g.cell t₀)]], [.ent t₀], [], .cons (.ent hc) .nil, ⟨.ent0 .nil, List.nodup_nil, fun k _ => by simp, fun _ h => (nomatch h), fun k _ h => by simp at h, trivial, .inr (.inl (.head _))⟩, fun _ => .inl rfl, rfl, ?_, rfl⟩ fun J jJ n loc' σ' hI => ?_
  · have : white g (fun _ => 0) ≤ g.T := by unfold white; exact Nat.le_trans (List.length_filter_le _ _) (by simp)
    (first | lia | omega)
  refine Classical.byContradiction fun hG => ?_
  refine xE0A3 hI fun l1 l2 l3 hz1_ => ?_
  try clear hI
  refine xE5A5 hz1_ fun s cnt items W path hA hD hS hn hcnt hr2_ => ?_
  clear hz1_
  obtain rfl := hr2_
  refine hG ?_
  clear hG
  have hlen := hA.length
  cases hA with
  | nil =>
    have hrt : r = true := hr.mpr (hD.fin fun k e => hc.2 k e)
    subst hrt
    repeat' w_up
    refine ⟨_, truthL (upd_same _ _ _), fun c vs hc' hl => by cases hc'; rw [upd_same] at hl; cases hl; simp, ?_⟩
    show @ite _ (false = true) _ _ _
    repeat' w_up
  | @cons v x items W hv hA =>
    have hs : items.length ≤ 100 := by have := hA.length; simp only [List.length_cons] at hn; (first | lia | omega)
    have eq : (v :: items).reverse = items.reverse ++ [v] := by simp
    rw [eq]
    repeat' w_up
    refine ⟨true, by rw [truthL (upd_same _ _ _)]; simp, fun c vs hc' hl => by cases hc'; rw [upd_same] at hl; cases hl; simp; (first | lia | omega), ?_⟩
    have S3 : ∀ (l : List V) (f : Int → Option V) (cn : Nat), Sto (upd (upd σ m (.dictI f cn)) w (.list l)) st sd bk hp sk tr cells := fun l f cn => ⟨T1 _ _ _ s1, T1 _ _ _ s2, T1 _ _ _ s3, T1 _ _ _ s4, T1 _ _ _ s5, s6, n1, n2, n3, n4⟩
    have B3 : ∀ (l : List V) (f : Int → Option V) (cn : Nat), Boo (upd (upd σ m (.dictI f cn)) w (.list l)) bk bd tx an fu fn fs := fun l f cn => ⟨T1 _ _ _ b1, T1 _ _ _ b2, T1 _ _ _ b3, b4⟩
    cases hv with
    | @ext j hj =>
      have hcj := G.comp j hj
      refine xE0A2 (hD.leave hT G.inj) fun _ hs1 hz3_ => ?_
      refine xE1A0 hz3_ fun path' hD' => ?_
      clear hz3_
      have dj : Der cells 0 (g.nd j) (g.nd j) := .stop (by (first | lia | omega)) (by (first | lia | omega))
      repeat' w_up
      rw [upd_upd]
      refine (deref_ok hK (T1 _ _ _ s1) (T1 _ _ _ s2) (T1 _ _ _ s3) dj (by first | exact lt_big (by assumption) (by rfl) | (first | lia | omega))).useV (by decide) ?_
      repeat' w_up
      refine (is_comp_V hK (S3 _ _ _) (b := true) ⟨fun _ => rfl, fun _ => hcj⟩).useV (by decide) ?_
      repeat' w_up
      refine Set_dictI (upd_look hwm.symm (upd_same _ _ _)) (by (first | lia | omega)) ?_
      repeat' w_up
      have wl := white_leave g s (g.nd j).2
      refine ⟨_, ?_, jJ ⟨l1, l2, l3, _, cnt + 1, items, W, path', hA, hD', fun i => ?_, rfl, ?_, ?_⟩⟩
      · rw [hn]; simp only [List.length_cons]; (first | lia | omega)
      · split
        · exact .inr (.inr rfl)
        · exact hS i
      · simp only [List.length_cons] at hn; (first | lia | omega)
      · rw [stF_set _ _ _ (by decide), sw]
    | @ent a t ha =>
      refine xE0A1 ha fun hr4_ hlt => ?_
      try clear ha
      refine xE1A0 hr4_ fun k2 hk2 => ?_
      try clear hr4_
      repeat' w_up
      rw [upd_upd]
      refine (deref_ok hK (T1 _ _ _ s1) (T1 _ _ _ s2) (T1 _ _ _ s3) hk2 (by first | exact lt_big (by assumption) (by rfl) | (first | lia | omega))).useV (by decide) ?_
      repeat' w_up
      by_cases hnode : ∃ j, t = .node j
      · refine xE1A0 hnode fun j hr5_ => ?_
        try clear hnode
        obtain rfl := hr5_
        have hj := hlt j rfl
        have hcj := G.comp j hj
        have ec : g.cell (.node j) = g.nd j := rfl
        rw [ec]
        refine (is_comp_V hK (S3 _ _ _) (b := true) ⟨fun _ => rfl, fun _ => hcj⟩).useV (by decide) ?_
        repeat' w_up
        refine B_getI (upd_look hwm.symm (upd_same _ _ _)) ?_
        rw [stF_get]
        repeat' w_up
        · rename_i hs1
          have hrf : r = false := by
            cases r with
            | false => rfl
            | true => exact absurd (hr.mp rfl) (hD.circle hj hs1)
          subst hrf
          repeat' w_up
        · rename_i hs1 hs0
          refine xE1A1 (G.args j hj) fun as ha1 ha2 => ?_
          have hw3 := G.w3 j hj
          have hal := ha2.length
          have hwe := white_enter (g := g) hj hs0
          refine Set_dictI (upd_look hwm.symm (upd_same _ _ _)) (by (first | lia | omega)) ?_
          rw [stF_set _ _ _ (by decide), sw]
          repeat' w_up
          rw [upd_upd]
          refine (base_ok hK (S3 _ _ _)).useV (by decide) ?_
          repeat' w_up
          refine S_For (.inl (by o_inst)) (I_range1 (by w_side) PyProof.Rows.boot_range (by decide) (by o_inst) ?_)
          repeat' w_up
          refine (width_ok hK (S3 _ _ _) (B3 _ _ _) (G.wid j hj)).useV (by decide) ?_
          repeat' w_up
          refine ⟨_, rfl, by (first | lia | omega), by (first | lia | omega), fun i l s' => l "store" = some (.ref st) ∧ l "state" = some (.ref m) ∧ l "work" = some (.ref w) ∧ l "place" = some (.int (bas (g.nd j))) ∧
            s' = upd (upd σ m (.dictI (stF (fun i => if i = (g.nd j).2 then 1 else s i)) (cnt + 1))) w (.list ((items.reverse ++ [.tup [.bool false, cv (g.nd j)]]) ++ (as.take i).map fun a => .tup [.bool true, cv a])), ⟨l1, l2, l3, rfl, by simp⟩, fun _ _ _ _ => trivial, ?_, ?_⟩
          · intro J jJ i y l s' hy hI_
            refine xE0A4 hI_ fun f1 f2 f3 f4 f5 => ?_
            try clear hI_
            refine xE0A1 (steps_01 _ hy) fun hi hr6_ => ?_
            obtain rfl := hr6_
            subst f5
            have hi' : i < as.length := by (first | lia | omega)
            have g4 := ha1.1
            have g5 := ha1.2 i hi'
            rw [List.getElem?_eq_getElem hi'] at g5
            repeat' w_up
            refine jJ ⟨f1, f2, f3, f4, ?_⟩
            have et : as.take (i + 1) = as.take i ++ [as[i]] := by rw [List.take_add_one, List.getElem?_eq_getElem hi']; rfl
            rw [upd_upd, et, List.map_append, ← List.append_assoc]
            rfl
          · intro l s' hI_
            refine xE0A4 hI_ fun f1 f2 f3 f4 f5 => ?_
            try clear hI_
            rw [steps_length, List.take_of_length_le (by (first | lia | omega))] at f5
            subst f5
            repeat' w_up
            refine ⟨_, ?_, jJ ⟨f1, f2, f3, _, cnt + 1, ((as.map fun a => V.tup [.bool true, cv a]).reverse ++ .tup [.bool false, cv (g.nd j)] :: items), _, _, (RepW.rev ha2).append (.cons (.ext hj) hA), hD.enter hj hs0 G.inj (l := (g.ch j).reverse) (fun t => List.mem_reverse), fun i => ?_, rfl, ?_, ?_⟩⟩
            · rw [hn]; simp; (first | lia | omega)
            · split
              · exact .inr (.inl rfl)
              · exact hS i
            · simp at hn ⊢; (first | lia | omega)
            · simp
        · rename_i hs1 hs0
          have hs2 : s (g.nd j).2 = 2 := by rcases hS (g.nd j).2 with q | q | q <;> first | exact q | exact absurd q hs0 | exact absurd q hs1
          repeat' w_up
          refine ⟨_, ?_, jJ ⟨l1, l2, l3, s, cnt, items, W, path, hA, hD.drop hs2, hS, rfl, ?_, rfl⟩⟩
          · rw [hn]; simp
          · simp only [List.length_cons] at hn; (first | lia | omega)
      · have hnc : ¬ ((g.cell t).1 = 2 ∨ (g.cell t).1 = 3) := by cases t <;> first | (exact absurd ⟨_, rfl⟩ hnode) | simp [Gr.cell]
        have okt : okB g s t := by cases t <;> first | (exact absurd ⟨_, rfl⟩ hnode) | exact trivial
        refine (is_comp_V hK (S3 _ _ _) (b := false) ⟨fun h => absurd h hnc, fun h => nomatch h⟩).useV (by decide) ?_
        repeat' w_up
        refine ⟨_, ?_, jJ ⟨l1, l2, l3, s, cnt, items, W, path, hA, hD.drop okt, hS, rfl, ?_, rfl⟩⟩
        · rw [hn]; simp
        · simp only [List.length_cons] at hn; (first | lia | omega)
end

/-- a global pair of ints -/
noncomputable def gTup (K : Frag) (x : Str) (c : Cell) : Prop := ∃ a t t' n, nsIn K mainGlobals x = some (some (.ref a)) ∧ K.lookup a = some (tupObj #[.int c.1 t, .int c.2 t'] n)
theorem W_NameT {C : Cx} {R : Rm} {env : Env} {loc : Loc} {σ : Sg} {x : Str} {c : Cell} {pos : Pos} {P : V → Sg → Prop} (hv : gTup C.K x c) (hk : env.kindOf x = some .globalImplicit) (h : P (cv c) σ)
    (hd : (x == ("__debug__" : Str)) = false := by decide) : WE C R env loc (eval (.Name x pos) env) P σ := by
  refine xE4A1 hv fun a t t' n e ho => ?_
  try clear hv
  exact W_NameG e (fun h hin => .tup (hin _ _ ho) (.cons (.int _ _) (.cons (.int _ _) .nil))) hk h hd
section
variable {C : Cx} (hK : C.K = KK C.w.params) {σ : Sg} {st sd bk hp sk tr bd fu fn tx an ar ad xl : Addr} {cells fs : List Cell} {gA : Str → Option V} {nA : Nat} {xs : List V} {x1 : Cell}
include hK
theorem t_NIL : gTup C.K "NIL_CELL" (4, 0) := by rw [hK]; exact ⟨468, _, _, _, by kernel_rfl, rfl⟩
theorem t_VOID : gTup C.K "VOID" (5, 0) := by rw [hK]; exact ⟨180, _, _, _, by kernel_rfl, rfl⟩
theorem pred_is_list_ok {g : Gr} {t₀ : Tgt} {k : Nat} (S : Sto σ st sd bk hp sk tr cells) (A : Ars σ ar ad xl st gA nA xs x1) (G : GrOk g cells fs) (hx : Der cells k x1 (g.cell t₀)) (h1 : (g.cell t₀).1 ≠ 1) (hc : Lead g cells (g.cell t₀) t₀)
    (r : Bool) (hr : r = true ↔ ∃ n, ToNil g n t₀) : WC C (lv 5).P 475 [.ref ar] (fun x σ' => x = .bool r ∧ σ' = σ) σ := by
  have S' := S
  have A' := A
  refine S.x3 fun s1 s2 s3 s6 n1 n2 => ?_
  obtain ⟨a1, a2, a3, a4, a5, a6, a7, a8⟩ := A
  refine WC_def0K (fd := fd475) (body := bd475) (n := 4) (names := ["m"]) hK (at475 _) (cd475 _) rfl rfl rfl rfl (BindF_1 fun a => rfl) (by kernel_rfl!) fun L hL Qp hQp => ?_
  refine S_cons ?_
  repeat' w_up
  refine (areas_arg_ok hK S' A' hx h1).useV (by decide) ?_
  repeat' w_up
  refine (list_cells_ok hK S' G hc).use (by decide) fun x s' hI_ => ?_
  refine xE2A2 hI_ fun f t e1 e3 e2 => ?_
  try clear hI_
  subst e1; obtain rfl := e2.symm
  repeat' w_up
  refine W_NameT (t_NIL hK) (by o_inst) ?_
  repeat' w_up
  refine Op_eqD (cv_flat _) (cv_flat _) (cv_shaped _) (cv_shaped _) ?_
  rw [cv_eq]
  have : decide (g.cell t = (4, 0)) = r := by
    cases r with
    | true => exact decide_eq_true (e3.mpr (hr.mp rfl))
    | false => exact decide_eq_false fun h => by have := hr.mpr (e3.mp h); cases this
  rw [this]
  repeat' w_up
end

/-- the whole book -/
structure Bks (σ : Sg) (bk bd tx an fu fn : Addr) (ts : List Str) (fs : List Cell) : Prop where
  b1 : σ bk = some (.inst 154 bd)
  b2 : σ bd = some (.ns (bookNs tx an fu fn) 4)
  b3 : σ tx = some (.list (ts.map .str))
  b4 : σ an = some (.dictS (amF ts) ts.length)
  b5 : σ fu = some (.list (fs.map cv))
  b6 : σ fn = some (.dictT (fmF fs) fs.length)
  l1 : ts.length < 900
  l2 : fs.length < 900
theorem B_getS' {C : Cx} {R : Rm} {env : Env} {loc : Loc} {σ : Sg} {a : Addr} {i : Str} {n : Nat} {g : Str → Option V} {d : V} {P : V → Sg → Prop} (e : σ a = some (.dictS g n)) {v : V} (hv : (g i).getD d = v) (h : P v σ) : CallB C R env loc "dict.get" [.ref a, .str i, d] P σ := B_getS e (by rw [hv]; exact h)
theorem B_getT' {C : Cx} {R : Rm} {env : Env} {loc : Loc} {σ : Sg} {a : Addr} {c : Cell} {n : Nat} {g : List Int → Option V} {d : V} {P : V → Sg → Prop} (e : σ a = some (.dictT g n)) {v : V} (hv : (g [c.1, c.2]).getD d = v) (h : P v σ) : CallB C R env loc "dict.get" [.ref a, .tup [.int c.1, .int c.2], d] P σ := B_getT (ks := [c.1, c.2]) e (by rw [hv]; exact h)
theorem Set_T {C : Cx} {R : Rm} {env : Env} {loc : Loc} {σ : Sg} {a : Addr} {c : Cell} {n : Nat} {f : List Int → Option V} {y : V} {P : Sg → Prop} (e : σ a = some (.dictT f n)) (hn : n ≤ 100000) (hi : f [c.1, c.2] = none) (h : P (upd σ a (.dictT (fun j => if j = [c.1, c.2] then some y else f j) (n + 1)))) : SetV C R env loc (.ref a) (.tup [.int c.1, .int c.2]) y P σ := Set_dictT (i := [c.1, c.2]) e hn hi h
section
variable {C : Cx} (hK : C.K = KK C.w.params) {σ : Sg} {bk bd tx an fu fn : Addr} {ts : List Str} {fs : List Cell}
include hK
theorem atom_known {t : Str} {k : Nat} (B : Bks σ bk bd tx an fu fn ts fs) (h : posOf ts t = some k) : WC C (lv 1).P 88 [.ref bk, .str t] (fun x σ' => x = .int k ∧ σ' = σ) σ := by
  obtain ⟨b1, b2, b3, b4, b5, b6, l1, l2⟩ := B
  refine WC_def0K (fd := fd88) (body := bd88) (n := 0) (names := ["self", "text"]) hK (at88 _) (cd88 _) rfl rfl rfl rfl (BindF_2 fun a b => rfl) (by kernel_rfl!) fun L hL Qp hQp => ?_
  refine S_cons ?_
  repeat' w_up
  refine B_getS' (v := .int k) b4 (by unfold amF; rw [h]; rfl) ?_
  repeat' w_up
theorem atom_new {t : Str} (B : Bks σ bk bd tx an fu fn ts fs) (h : posOf ts t = none) (hne : tx ≠ an) : WC C (lv 1).P 88 [.ref bk, .str t] (fun x σ' => x = .int ts.length ∧ σ' = upd (upd σ tx (.list ((ts ++ [t]).map .str))) an (.dictS (amF (ts ++ [t])) (ts.length + 1))) σ := by
  obtain ⟨b1, b2, b3, b4, b5, b6, l1, l2⟩ := B
  have m1 : bk ≠ tx := fun q => by rw [q, b3] at b1; cases b1
  have m2 : bd ≠ tx := fun q => by rw [q, b3] at b2; cases b2
  have ham : amF ts t = none := by unfold amF; rw [h]; rfl
  refine WC_def0K (fd := fd88) (body := bd88) (n := 0) (names := ["self", "text"]) hK (at88 _) (cd88 _) rfl rfl rfl rfl (BindF_2 fun a b => rfl) (by kernel_rfl!) fun L hL Qp hQp => ?_
  refine S_cons ?_
  repeat' w_up
  refine B_getS' (v := .int (-1)) b4 (by rw [ham]; rfl) ?_
  repeat' w_up
  refine Set_dictS (upd_look (Ne.symm hne) b4) (by (first | lia | omega)) ?_
  rw [List.length_map, amF_new ham]
  repeat' w_up
  intro a o h
  simpa using h
theorem functor_known {c : Cell} {k : Nat} (B : Bks σ bk bd tx an fu fn ts fs) (h : posOf fs c = some k) : WC C (lv 1).P 102 [.ref bk, .int c.1, .int c.2] (fun x σ' => x = .int k ∧ σ' = σ) σ := by
  obtain ⟨b1, b2, b3, b4, b5, b6, l1, l2⟩ := B
  refine WC_def0K (fd := fd102) (body := bd102) (n := 0) (names := ["self", "atom", "arity"]) hK (at102 _) (cd102 _) rfl rfl rfl rfl (BindF_3 fun a b c => rfl) (by kernel_rfl!) fun L hL Qp hQp => ?_
  refine S_cons ?_
  repeat' w_up
  refine B_getT' (v := .int k) b6 (by show ((posOf fs (c.1, c.2)).map _).getD _ = _; rw [show (c.1, c.2) = c from rfl, h]; rfl) ?_
  repeat' w_up
theorem functor_new {c : Cell} (B : Bks σ bk bd tx an fu fn ts fs) (h : posOf fs c = none) (hne : fu ≠ fn) : WC C (lv 1).P 102 [.ref bk, .int c.1, .int c.2] (fun x σ' => x = .int fs.length ∧ σ' = upd (upd σ fu (.list ((fs ++ [c]).map cv))) fn (.dictT (fmF (fs ++ [c])) (fs.length + 1))) σ := by
  obtain ⟨b1, b2, b3, b4, b5, b6, l1, l2⟩ := B
  have m1 : bk ≠ fu := fun q => by rw [q, b5] at b1; cases b1
  have m2 : bd ≠ fu := fun q => by rw [q, b5] at b2; cases b2
  have hfm : fmF fs [c.1, c.2] = none := by show (posOf fs (c.1, c.2)).map _ = _; rw [show (c.1, c.2) = c from rfl, h]; rfl
  refine WC_def0K (fd := fd102) (body := bd102) (n := 0) (names := ["self", "atom", "arity"]) hK (at102 _) (cd102 _) rfl rfl rfl rfl (BindF_3 fun a b c => rfl) (by kernel_rfl!) fun L hL Qp hQp => ?_
  refine S_cons ?_
  repeat' w_up
  refine B_getT' (v := .int (-1)) b6 (by rw [hfm]; rfl) ?_
  repeat' w_up
  refine Set_T (upd_look (Ne.symm hne) b6) (by (first | lia | omega)) hfm ?_
  rw [fmF_new hfm]
  repeat' w_up
end

noncomputable def bkS (σ : Sg) (tx an fu fn : Addr) (ts : List Str) (fs : List Cell) : Sg := upd (upd (upd (upd σ tx (.list (ts.map .str))) an (.dictS (amF ts) ts.length)) fu (.list (fs.map cv))) fn (.dictT (fmF fs) fs.length)
theorem Bks.same {σ : Sg} {bk bd tx an fu fn : Addr} {ts : List Str} {fs : List Cell} (B : Bks σ bk bd tx an fu fn ts fs) : bkS σ tx an fu fn ts fs = σ := by
  obtain ⟨b1, b2, b3, b4, b5, b6, l1, l2⟩ := B
  unfold bkS
  rw [upd_id b3, upd_id b4, upd_id b5, upd_id b6]
/-- the addresses of the book are apart -/
structure BkA (bk bd tx an fu fn : Addr) : Prop where
  e1 : bk ≠ tx ∧ bk ≠ an ∧ bk ≠ fu ∧ bk ≠ fn
  e2 : bd ≠ tx ∧ bd ≠ an ∧ bd ≠ fu ∧ bd ≠ fn
  e3 : tx ≠ an ∧ tx ≠ fu ∧ tx ≠ fn ∧ an ≠ fu ∧ an ≠ fn ∧ fu ≠ fn
theorem Bks.put {σ : Sg} {bk bd tx an fu fn : Addr} {ts ts' : List Str} {fs fs' : List Cell} (B : Bks σ bk bd tx an fu fn ts fs) (A : BkA bk bd tx an fu fn) (l1 : ts'.length < 900) (l2 : fs'.length < 900) : Bks (bkS σ tx an fu fn ts' fs') bk bd tx an fu fn ts' fs' := by
  obtain ⟨b1, b2, b3, b4, b5, b6, _, _⟩ := B
  obtain ⟨⟨p1, p2, p3, p4⟩, ⟨q1, q2, q3, q4⟩, ⟨r1, r2, r3, r4, r5, r6⟩⟩ := A
  unfold bkS
  exact ⟨upd_look p4 (upd_look p3 (upd_look p2 (upd_look p1 b1))), upd_look q4 (upd_look q3 (upd_look q2 (upd_look q1 b2))), upd_look r3 (upd_look r2 (upd_look r1 (upd_same _ _ _))), upd_look r5 (upd_look r4 (upd_same _ _ _)), upd_look r6 (upd_same _ _ _), upd_same _ _ _, l1, l2⟩
noncomputable def bkAt (ts : List Str) (t : Str) : List Str × Nat := match posOf ts t with | some k => (ts, k) | none => (ts ++ [t], ts.length)
noncomputable def bkFt (fs : List Cell) (c : Cell) : List Cell × Nat := match posOf fs c with | some k => (fs, k) | none => (fs ++ [c], fs.length)
theorem atom_ok {C : Cx} (hK : C.K = KK C.w.params) {σ : Sg} {bk bd tx an fu fn : Addr} {ts : List Str} {fs : List Cell} {t : Str} (B : Bks σ bk bd tx an fu fn ts fs) (A : BkA bk bd tx an fu fn) :
    WC C (lv 1).P 88 [.ref bk, .str t] (fun x σ' => x = .int ((bkAt ts t).2 : Nat) ∧ σ' = bkS σ tx an fu fn (bkAt ts t).1 fs) σ := by
  refine xE0A5 A.e3 fun r1 r2 r3 r4 r5 r6 => ?_
  unfold bkAt
  cases h : posOf ts t with
  | some k => exact (atom_known hK B h).use (by decide) fun x s ⟨e1, e2⟩ => ⟨e1, by rw [e2]; exact B.same.symm⟩
  | none =>
    refine (atom_new hK B h r1).use (by decide) fun x s ⟨e1, e2⟩ => ⟨e1, ?_⟩
    rw [e2]
    unfold bkS
    rw [upd_id (σ := upd _ an _) (upd_look (Ne.symm r4) (upd_look (Ne.symm r2) B.b5)), upd_id (upd_look (Ne.symm r5) (upd_look (Ne.symm r3) B.b6))]
    simp

theorem functor_ok {C : Cx} (hK : C.K = KK C.w.params) {σ : Sg} {bk bd tx an fu fn : Addr} {ts : List Str} {fs : List Cell} {c : Cell} (B : Bks σ bk bd tx an fu fn ts fs) (A : BkA bk bd tx an fu fn) :
    WC C (lv 1).P 102 [.ref bk, .int c.1, .int c.2] (fun x σ' => x = .int ((bkFt fs c).2 : Nat) ∧ σ' = bkS σ tx an fu fn ts (bkFt fs c).1) σ := by
  refine xE0A5 A.e3 fun r1 r2 r3 r4 r5 r6 => ?_
  unfold bkFt
  cases h : posOf fs c with
  | some k => exact (functor_known hK B h).use (by decide) fun x s ⟨e1, e2⟩ => ⟨e1, by rw [e2]; exact B.same.symm⟩
  | none =>
    refine (functor_new hK B h r6).use (by decide) fun x s ⟨e1, e2⟩ => ⟨e1, ?_⟩
    rw [e2]
    unfold bkS
    rw [upd_id B.b3, upd_id B.b4]
    simp
theorem bkS_bkS (σ : Sg) {bk bd tx an fu fn : Addr} (A : BkA bk bd tx an fu fn) (ts ts' : List Str) (fs fs' : List Cell) : bkS (bkS σ tx an fu fn ts fs) tx an fu fn ts' fs' = bkS σ tx an fu fn ts' fs' := by
  refine xE0A5 A.e3 fun r1 r2 r3 r4 r5 r6 => ?_
  unfold bkS
  funext b
  by_cases h1 : b = fn
  · subst h1; rw [upd_same, upd_same]
  by_cases h2 : b = fu
  · subst h2; simp only [upd_ne _ _ h1, upd_same]
  by_cases h3 : b = an
  · subst h3; simp only [upd_ne _ _ h1, upd_ne _ _ h2, upd_same]
  by_cases h4 : b = tx
  · subst h4; simp only [upd_ne _ _ h1, upd_ne _ _ h2, upd_ne _ _ h3, upd_same]
  · simp only [upd_ne _ _ h1, upd_ne _ _ h2, upd_ne _ _ h3, upd_ne _ _ h4]
/-- func(text, arity) -/
noncomputable def bkFn (ts : List Str) (fs : List Cell) (t : Str) (n : Int) : List Str × List Cell × Nat := ((bkAt ts t).1, (bkFt fs (((bkAt ts t).2 : Nat), n)).1, (bkFt fs (((bkAt ts t).2 : Nat), n)).2)
theorem func_ok {C : Cx} (hK : C.K = KK C.w.params) {σ : Sg} {bk bd tx an fu fn : Addr} {ts : List Str} {fs : List Cell} {t : Str} {n : Int} (B : Bks σ bk bd tx an fu fn ts fs) (A : BkA bk bd tx an fu fn) (hl : ts.length < 899) :
    WC C (lv 2).P 109 [.ref bk, .str t, .int n] (fun x σ' => x = .int ((bkFn ts fs t n).2.2 : Nat) ∧ σ' = bkS σ tx an fu fn (bkFn ts fs t n).1 (bkFn ts fs t n).2.1) σ := by
  have B' := B
  have hl' : (bkAt ts t).1.length < 900 := by unfold bkAt; split <;> simp <;> (first | lia | omega)
  have Bn := B.put (ts' := (bkAt ts t).1) (fs' := fs) A hl' B.l2
  obtain ⟨b1, b2, b3, b4, b5, b6, l1, l2⟩ := B
  refine WC_def0K (fd := fd109) (body := bd109) (n := 1) (names := ["self", "text", "arity"]) hK (at109 _) (cd109 _) rfl rfl rfl rfl (BindF_3 fun a b c => rfl) (by kernel_rfl!) fun L hL Qp hQp => ?_
  refine S_cons ?_
  repeat' w_up
  refine (atom_ok hK B' A).useV (by decide) ?_
  repeat' w_up
  refine (functor_ok hK (c := (((bkAt ts t).2 : Nat), n)) Bn A).useV (by decide) ?_
  rw [bkS_bkS _ A]
  repeat' w_up

noncomputable def atoms0 : List Str := ["[]", ".", "{}", "-", "+", "*", "/", ",", "|", ";", "->", "\\+", ":-", "?-", "-->", "!", "true", "fail", "false", "call", "=", "^", "error", "", "end_of_file", "system", "$VAR", "catch", "throw"]
theorem BindF_0 {K : Frag} {fd : FuncData} (h : bindArgs fd ⟨[], []⟩ = pure []) : BindF K fd [] 0 [] := fun s vals _ hl => by
  obtain rfl := List.length_eq_zero_iff.mp hl
  exact .of_eq (by simpa using h)
theorem fixed_atoms_ok {C : Cx} (hK : C.K = KK C.w.params) {σ : Sg} : WC C (lv 1).P 60 [] (fun x σ' => x = .tup (atoms0.map .str) ∧ σ' = σ) σ := by
  refine WC_def0K (fd := fd60) (body := bd60) (n := 0) (names := []) hK (at60 _) (cd60 _) rfl rfl rfl rfl (BindF_0 rfl) (by kernel_rfl!) fun L hL Qp hQp => ?_
  refine S_cons ?_
  w_up
  refine W_Tuple ?_
  repeat' (first | ((with_reducible show WL _ _ _ _ (spliced (backTo _ (starEach (_ :: _) _))) _ _); refine W_cons ?_) | ((with_reducible show WL _ _ _ _ (spliced (backTo _ (starEach [] _))) _ _); refine W_nil ?_) | ((with_reducible show WE _ _ _ _ (eval (.Constant ..) _) _ _); first | refine W_Const_str ?_ | refine W_Const_int ?_) | ((with_reducible show WE _ _ _ _ (eval (.Tuple ..) _) _ _); refine W_Tuple ?_) | ((with_reducible show KTu _ _ _); refine ⟨Nat.le_of_ble_eq_true rfl, ?_⟩))
  repeat' w_up
noncomputable def rows0 : List (Str × Int) := [(".", 2), (",", 2), (";", 2), ("->", 2), ("\\+", 1), (":-", 2), (":-", 1), ("?-", 1), ("-->", 2), ("{}", 1), ("=", 2), ("^", 2), ("-", 1), ("-", 2), ("+", 2), ("/", 2), ("error", 2), ("$VAR", 1), ("catch", 3), ("throw", 1), ("!", 0), ("true", 0), ("fail", 0), ("false", 0), ("call", 1), ("call", 2), ("call", 3), ("call", 4), ("call", 5), ("call", 6), ("call", 7), ("call", 8)]
theorem fixed_functors_ok {C : Cx} (hK : C.K = KK C.w.params) {σ : Sg} : WC C (lv 1).P 67 [] (fun x σ' => x = .tup (rows0.map fun r => .tup [.str r.1, .int r.2]) ∧ σ' = σ) σ := by
  refine WC_def0K (fd := fd67) (body := bd67) (n := 0) (names := []) hK (at67 _) (cd67 _) rfl rfl rfl rfl (BindF_0 rfl) (by kernel_rfl!) fun L hL Qp hQp => ?_
  refine S_cons ?_
  w_up
  refine W_Tuple ?_
  repeat' (first | ((with_reducible show WL _ _ _ _ (spliced (backTo _ (starEach (_ :: _) _))) _ _); refine W_cons ?_) | ((with_reducible show WL _ _ _ _ (spliced (backTo _ (starEach [] _))) _ _); refine W_nil ?_) | ((with_reducible show WE _ _ _ _ (eval (.Constant ..) _) _ _); first | refine W_Const_str ?_ | refine W_Const_int ?_) | ((with_reducible show WE _ _ _ _ (eval (.Tuple ..) _) _ _); refine W_Tuple ?_) | ((with_reducible show KTu _ _ _); refine ⟨Nat.le_of_ble_eq_true rfl, ?_⟩))
  repeat' w_up

theorem upd_none {σ : Sg} {a b : Addr} {o : AO} (h : upd σ a o b = none) : b ≠ a ∧ σ b = none := by
  by_cases q : b = a
  · subst q; rw [upd_same] at h; cases h
  · rw [upd_ne _ _ q] at h; exact ⟨q, h⟩
noncomputable def bkAts (ts : List Str) (l : List Str) : List Str := l.foldl (fun ts t => (bkAt ts t).1) ts
noncomputable def bkFns (p : List Str × List Cell) (l : List (Str × Int)) : List Str × List Cell := l.foldl (fun p r => ((bkFn p.1 p.2 r.1 r.2).1, (bkFn p.1 p.2 r.1 r.2).2.1)) p
theorem bkAt_len (ts : List Str) (t : Str) : (bkAt ts t).1.length ≤ ts.length + 1 := by unfold bkAt; split <;> simp
theorem bkFt_len (fs : List Cell) (c : Cell) : (bkFt fs c).1.length ≤ fs.length + 1 := by unfold bkFt; split <;> simp
theorem bkS_sub {σ τ : Sg} {tx an fu fn : Addr} {ts : List Str} {fs : List Cell} (h : Sub σ τ) (h1 : σ tx = none) (h2 : σ an = none) (h3 : σ fu = none) (h4 : σ fn = none) : Sub σ (bkS τ tx an fu fn ts fs) :=
  (((h.loc h1).loc h2).loc h3).loc h4
/-- a book made -/
structure Made (σ σ' : Sg) (bk bd tx an fu fn : Addr) (ts : List Str) (fs : List Cell) : Prop where
  B : Bks σ' bk bd tx an fu fn ts fs
  A : BkA bk bd tx an fu fn
  S : Sub σ σ'
  new : σ bk = none ∧ σ bd = none ∧ σ tx = none ∧ σ an = none ∧ σ fu = none ∧ σ fn = none
theorem Made.put {σ σ' : Sg} {bk bd tx an fu fn : Addr} {ts ts' : List Str} {fs fs' : List Cell} (M : Made σ σ' bk bd tx an fu fn ts fs) (l1 : ts'.length < 900) (l2 : fs'.length < 900) : Made σ (bkS σ' tx an fu fn ts' fs') bk bd tx an fu fn ts' fs' :=
  ⟨M.B.put M.A l1 l2, M.A, bkS_sub M.S M.new.2.2.1 M.new.2.2.2.1 M.new.2.2.2.2.1 M.new.2.2.2.2.2, M.new⟩
theorem amF_nil : amF [] = fun _ => none := rfl
theorem fmF_nil : fmF [] = fun _ => none := by
  funext j
  match j with
  | [] => rfl
  | [_] => rfl
  | [a, b] => rfl
  | _ :: _ :: _ :: _ => rfl
theorem WS.at' {C : Cx} {R : Rm} {env : Env} {X : XT C R env} {t : Sem Flow} {P : Fl → Loc → Sg → Prop} {loc : Loc} {σ : Sg} (K : Sg → Prop) (hk : K σ) (h : ∀ τ, K τ → WS C R env X t P loc τ) : WS C R env X t P loc σ := h σ hk
theorem symbols_ok {C : Cx} (hK : C.K = KK C.w.params) {σ : Sg} : WC C (lv 4).P 154 [] (fun x σ' => ∃ bk bd tx an fu fn, x = .ref bk ∧ Made σ σ' bk bd tx an fu fn (bkFns (bkAts [] atoms0, []) rows0).1 (bkFns (bkAts [] atoms0, []) rows0).2) σ := by
  refine WC_new' (n_154 hK) fun bk bd h1 h2 hne => ?_
  refine WC_def0K (fd := fd81) (body := bd81) (n := 2) (names := ["self"]) hK (at81 _) (cd81 _) rfl rfl rfl rfl (BindF_1 fun a => rfl) (by kernel_rfl!) fun L hL Qp hQp => ?_
  refine S_cons ?_
  repeat' w_up
  rename_i tx htx
  refine W_Dict (.dictS (fun _ => none) 0) ⟨rfl, rfl⟩ fun an han => ?_
  repeat' w_up
  rename_i fu hfu
  refine W_Dict (.dictT (fun _ => none) 0) ⟨rfl, rfl⟩ fun fn hfn => ?_
  repeat' w_up
  have H_tx : tx ≠ bk ∧ tx ≠ bd ∧ σ tx = none := by
    repeat (first | (have q := upd_none htx; clear htx; obtain ⟨q1, htx⟩ := q))
    exact ⟨by assumption, by assumption, htx⟩
  have H_an : an ≠ tx ∧ an ≠ bk ∧ an ≠ bd ∧ σ an = none := by
    repeat (first | (have q := upd_none han; clear han; obtain ⟨q1, han⟩ := q))
    exact ⟨by assumption, by assumption, by assumption, han⟩
  have H_fu : fu ≠ an ∧ fu ≠ tx ∧ fu ≠ bk ∧ fu ≠ bd ∧ σ fu = none := by
    repeat (first | (have q := upd_none hfu; clear hfu; obtain ⟨q1, hfu⟩ := q))
    exact ⟨by assumption, by assumption, by assumption, by assumption, hfu⟩
  have H_fn : fn ≠ fu ∧ fn ≠ an ∧ fn ≠ tx ∧ fn ≠ bk ∧ fn ≠ bd ∧ σ fn = none := by
    repeat (first | (have q := upd_none hfn; clear hfn; obtain ⟨q1, hfn⟩ := q))
    exact ⟨by assumption, by assumption, by assumption, by assumption, by assumption, hfn⟩
  refine Classical.byContradiction fun hG => ?_
  refine xE0A2 H_tx fun x1 x2 x3 => ?_
  try clear H_tx
  refine xE0A3 H_an fun y2 y3 y1 y4 => ?_
  try clear H_an
  refine xE0A4 H_fu fun z2 z3 z4 z1 z5 => ?_
  try clear H_fu
  refine xE0A5 H_fn fun v2 v3 v4 v5 v1 v6 => ?_
  try clear H_fn
  refine hG ?_
  clear hG
  refine WS.at' (fun τ => Made σ τ bk bd tx an fu fn [] []) ⟨⟨?_, ?_, ?_, ?_, ?_, ?_, by decide, by decide⟩, ⟨⟨Ne.symm x1, Ne.symm y3, Ne.symm z4, Ne.symm v5⟩, ⟨Ne.symm x2, Ne.symm y1, Ne.symm z1, Ne.symm v1⟩, ⟨Ne.symm y2, Ne.symm z3, Ne.symm v4, Ne.symm z2, Ne.symm v3, Ne.symm v2⟩⟩, ?_, ⟨h1, h2, x3, y4, z5, v6⟩⟩ fun τ M => ?_
  · w_typed
  · exact upd_same _ _ _
  · w_typed
  · rw [amF_nil]; w_typed
  · w_typed
  · rw [fmF_nil]; w_typed
  · repeat' w_up
  clear hL htx han hfu hfn
  refine S_For (.inl (by o_inst)) (I_tup ?_)
  repeat' w_up
  refine (fixed_atoms_ok hK).useV (by decide) ?_
  refine ⟨_, rfl, fun i l s' => l "self" = some (.ref bk) ∧ Made σ s' bk bd tx an fu fn (bkAts [] (atoms0.take i)) [] ∧ (bkAts [] (atoms0.take i)).length ≤ i, ⟨rfl, M, Nat.le_refl _⟩, fun _ _ _ _ => trivial, ?_, ?_⟩
  · intro J jJ i y l s' hy hI_
    refine xE0A2 hI_ fun l1 M' hl => ?_
    try clear hI_
    rw [List.getElem?_map] at hy
    refine Classical.byContradiction fun hG => ?_
    refine xE1A1 (Option.map_eq_some_iff.mp hy) fun t ht hr1_ => ?_
    obtain rfl := hr1_
    refine hG ?_
    clear hG
    have hi : i < 29 := (List.getElem?_eq_some_iff.mp ht).1
    obtain ⟨b1, b2, b3, b4, b5, b6, _, _⟩ := M'.B
    have hl' := bkAt_len (bkAts [] (atoms0.take i)) t
    have et : bkAts [] (atoms0.take (i + 1)) = (bkAt (bkAts [] (atoms0.take i)) t).1 := by
      rw [List.take_add_one, ht]; unfold bkAts; rw [List.foldl_append]; rfl
    repeat' w_up
    refine (atom_ok hK M'.B M'.A).useV (by decide) ?_
    refine ⟨rfl, ?_⟩
    repeat' w_up
    refine jJ ⟨l1, ?_, ?_⟩
    · rw [et]; exact M'.put (by (first | lia | omega)) (by decide)
    · rw [et]; (first | lia | omega)
  · intro l s' hI_
    refine xE0A2 hI_ fun l1 M' hl => ?_
    try clear hI_
    have hlen : (atoms0.map V.str).length = 29 := rfl
    rw [hlen] at M' hl
    rw [show atoms0.take 29 = atoms0 from rfl] at M' hl
    generalize bkAts [] atoms0 = ts at M' hl hQp ⊢
    repeat' w_up
    refine S_For (.inl (by o_inst)) (I_tup ?_)
    repeat' w_up
    refine (fixed_functors_ok hK).useV (by decide) ?_
    refine ⟨_, rfl, fun i l s' => l "self" = some (.ref bk) ∧ Made σ s' bk bd tx an fu fn (bkFns (ts, []) (rows0.take i)).1 (bkFns (ts, []) (rows0.take i)).2 ∧ (bkFns (ts, []) (rows0.take i)).1.length ≤ 29 + i ∧ (bkFns (ts, []) (rows0.take i)).2.length ≤ i, ⟨l1, M', hl, Nat.le_refl _⟩, fun _ _ _ _ => trivial, ?_, ?_⟩
    · intro J jJ i y l s' hy hI_
      refine xE0A3 hI_ fun l1 M' hl1 hl2 => ?_
      try clear hI_
      rw [List.getElem?_map] at hy
      refine Classical.byContradiction fun hG => ?_
      refine xE1A1 (Option.map_eq_some_iff.mp hy) fun r ht hr2_ => ?_
      obtain rfl := hr2_
      refine hG ?_
      clear hG
      have hi : i < 32 := (List.getElem?_eq_some_iff.mp ht).1
      obtain ⟨b1, b2, b3, b4, b5, b6, _, _⟩ := M'.B
      have et : bkFns (ts, []) (rows0.take (i + 1)) = ((bkFn (bkFns (ts, []) (rows0.take i)).1 (bkFns (ts, []) (rows0.take i)).2 r.1 r.2).1, (bkFn (bkFns (ts, []) (rows0.take i)).1 (bkFns (ts, []) (rows0.take i)).2 r.1 r.2).2.1) := by
        rw [List.take_add_one, ht]; unfold bkFns; rw [List.foldl_append]; rfl
      generalize bkFns (ts, []) (rows0.take i) = p at *
      have h1' := bkAt_len p.1 r.1
      have h2' := bkFt_len p.2 (((bkAt p.1 r.1).2 : Nat), r.2)
      repeat' w_up
      refine (func_ok hK M'.B M'.A (by (first | lia | omega))).useV (by decide) ?_
      refine ⟨rfl, ?_⟩
      repeat' w_up
      refine jJ ⟨l1, ?_, ?_, ?_⟩
      · rw [et]; exact M'.put (by show (bkAt p.1 r.1).1.length < 900; (first | lia | omega)) (by show (bkFt p.2 _).1.length < 900; (first | lia | omega))
      · rw [et]; show (bkAt p.1 r.1).1.length ≤ _; (first | lia | omega)
      · rw [et]; show (bkFt p.2 _).1.length ≤ _; (first | lia | omega)
    · intro l s' hI_
      refine xE0A2 hI_ fun l1 M' hl => ?_
      try clear hI_
      have hlen : (rows0.map fun r => V.tup [.str r.1, .int r.2]).length = 32 := rfl
      rw [hlen] at M'
      rw [show rows0.take 32 = rows0 from rfl] at M'
      repeat' w_up
      exact ⟨s', fun _ _ h => h, rfl, bk, bd, tx, an, fu, fn, rfl, M'⟩

theorem WC.at' {C : Cx} {R : Around → Prop} {f : Addr} {args : List V} {P : V → Sg → Prop} {σ : Sg} (K : Sg → Prop) (hk : K σ) (h : ∀ τ, K τ → WC C R f args P τ) : WC C R f args P σ := h σ hk
theorem bind195 (P : Params) : BindF (KK P) fd195 ["self", "symbols", "max_heap"] 3 [] := fun s vals X hl => by
  refine Classical.byContradiction fun hG => ?_
  refine xE3A0 (len3 hl) fun a b c hr1_ => ?_
  obtain rfl := hr1_
  refine hG ?_
  clear hG
  exact BindsTo.of_defaults (T := 188) rfl (X 188 _ rfl) rfl rfl rfl
theorem bind504 (P : Params) : BindF (KK P) fd504 ["self", "symbols", "code", "max_heap", "occurs", "max_bits"] 5 [.int 4096 891] := fun s vals X hl => by
  refine Classical.byContradiction fun hG => ?_
  refine xE5A0 (len5 hl) fun a b c d e hr2_ => ?_
  obtain rfl := hr2_
  refine hG ?_
  clear hG
  exact BindsTo.of_defaults (T := 497) rfl (X 497 _ rfl) rfl rfl rfl
theorem store_ok {C : Cx} (hK : C.K = KK C.w.params) {σ : Sg} {bk : Addr} : WC C (lv 2).P 381 [.ref bk, .int 2000] (fun x σ' => ∃ st sd hp sk tr, x = .ref st ∧ Sto σ' st sd bk hp sk tr [] ∧ Sub σ σ' ∧ σ st = none ∧ σ sd = none ∧ σ hp = none ∧ σ sk = none ∧ σ tr = none ∧ sk ≠ tr) σ := by
  refine WC_new' (n_381 hK) fun st sd h1 h2 hne => ?_
  refine WC_def0K (fd := fd195) (body := bd195) (n := 0) (names := ["self", "symbols", "max_heap"]) hK (at195 _) (cd195 _) rfl rfl rfl rfl (by rw [hK]; exact bind195 _) (by kernel_rfl!) fun L hL Qp hQp => ?_
  refine S_cons ?_
  repeat' w_up
  rename_i hp hhp sk hsk tr htr
  have H_hp : hp ≠ st ∧ hp ≠ sd ∧ σ hp = none := by
    repeat (first | (have q := upd_none hhp; clear hhp; obtain ⟨q1, hhp⟩ := q))
    exact ⟨by assumption, by assumption, hhp⟩
  have H_sk : sk ≠ hp ∧ sk ≠ st ∧ sk ≠ sd ∧ σ sk = none := by
    repeat (first | (have q := upd_none hsk; clear hsk; obtain ⟨q1, hsk⟩ := q))
    exact ⟨by assumption, by assumption, by assumption, hsk⟩
  have H_tr : tr ≠ sk ∧ tr ≠ hp ∧ tr ≠ st ∧ tr ≠ sd ∧ σ tr = none := by
    repeat (first | (have q := upd_none htr; clear htr; obtain ⟨q1, htr⟩ := q))
    exact ⟨by assumption, by assumption, by assumption, by assumption, htr⟩
  clear hhp hsk htr
  refine Classical.byContradiction fun hG => ?_
  refine xE0A2 H_hp fun x2 x1 x4 => ?_
  try clear H_hp
  refine xE0A3 H_sk fun y2 y3 y1 y4 => ?_
  try clear H_sk
  refine xE0A4 H_tr fun z2 z3 z5 z1 z4 => ?_
  try clear H_tr
  refine hG ?_
  clear hG
  refine ⟨_, fun _ _ h => h, rfl, st, sd, hp, sk, tr, rfl, ⟨?_, ?_, ?_, ?_, ?_, by decide, Ne.symm x2, Ne.symm x1, y2, z3⟩, ?_, h1, h2, x4, y4, z4, Ne.symm z2⟩
  · w_typed
  · exact upd_same _ _ _
  · w_typed
  · w_typed
  · w_typed
  · show Sub _ _
    repeat' w_up

noncomputable def areasNs (bk co st xl ro ba : Addr) : Str → Option V := setF (setF (setF (setF (setF (setF (setF (setF (setF (setF (setF (setF (setF (setF (setF (setF (setF (setF (fun _ => none) "symbols" (.ref bk)) "code" (.ref co)) "max_heap" (.int 2000)) "occurs" (.bool false)) "max_bits" (.int 4096)) "store" (.ref st)) "x" (.ref xl)) "p" (.int 0)) "cp" (.int 0)) "e" (.int (-1))) "b" (.int (-1))) "b0" (.int (-1))) "mode" (.str "read")) "s" (.int 0)) "guard" (cv (5, 0))) "roots" (.ref ro)) "bags" (.ref ba)) "collect_wanted" (.bool false)
structure AMade (σ σ' : Sg) (bk co ar ad st sd hp sk tr xl ro ba : Addr) : Prop where
  a1 : σ' ar = some (.inst 647 ad)
  a2 : σ' ad = some (.ns (areasNs bk co st xl ro ba) 18)
  S : Sto σ' st sd bk hp sk tr []
  x : σ' xl = some (.list [cv (5, 0)])
  sub : Sub σ σ'
  new : σ ar = none ∧ σ ad = none ∧ σ st = none ∧ σ sd = none ∧ σ hp = none ∧ σ sk = none ∧ σ tr = none ∧ σ xl = none
  dif : xl ≠ hp ∧ xl ≠ sk ∧ xl ≠ tr ∧ sk ≠ tr
noncomputable def a5Ns (bk co : Addr) : Str → Option V := setF (setF (setF (setF (setF (fun _ => none) "symbols" (.ref bk)) "code" (.ref co)) "max_heap" (.int 2000)) "occurs" (.bool false)) "max_bits" (.int 4096)
noncomputable def gStr (K : Frag) (x : Str) : Option Str := match nsIn K mainGlobals x with | some (some (.str i _)) => some i | _ => none
theorem W_NameS {C : Cx} {R : Rm} {env : Env} {loc : Loc} {σ : Sg} {x : Str} {i : Str} {pos : Pos} {P : V → Sg → Prop} (hv : gStr C.K x = some i) (hk : env.kindOf x = some .globalImplicit) (h : P (.str i) σ)
    (hd : (x == ("__debug__" : Str)) = false := by decide) : WE C R env loc (eval (.Name x pos) env) P σ := by
  unfold gStr at hv
  cases e : nsIn C.K mainGlobals x with
  | none => rw [e] at hv; cases hv
  | some o =>
    rw [e] at hv
    cases o with
    | none => cases hv
    | some w =>
      cases w with
      | str j t => cases hv; exact W_NameG e (fun _ _ => .str _ _) hk h hd
      | _ => cases hv
theorem s_READ {C : Cx} (hK : C.K = KK C.w.params) : gStr C.K "READ" = some "read" := by rw [hK]; kernel_rfl
theorem Sub.none {σ τ : Sg} {a : Addr} (h : Sub σ τ) (e : τ a = Option.none) : σ a = Option.none := by
  cases q : σ a with
  | none => rfl
  | some o => rw [h a o q] at e; cases e
theorem reset_ok {C : Cx} (hK : C.K = KK C.w.params) {σ : Sg} {bk co ar ad : Addr} (h1 : σ ar = some (.inst 647 ad)) (h2 : σ ad = some (.ns (a5Ns bk co) 5)) :
    WC C (lv 3).P 511 [.ref ar] (fun x σ' => x = .none ∧ ∃ st sd hp sk tr xl ro ba, σ' ar = some (.inst 647 ad) ∧ σ' ad = some (.ns (areasNs bk co st xl ro ba) 18) ∧ Sto σ' st sd bk hp sk tr [] ∧ σ' xl = some (.list [cv (5, 0)]) ∧ (∀ b o, σ b = some o → b ≠ ad → σ' b = some o) ∧
      (σ st = none ∧ σ sd = none ∧ σ hp = none ∧ σ sk = none ∧ σ tr = none ∧ σ xl = none) ∧ (xl ≠ hp ∧ xl ≠ sk ∧ xl ≠ tr ∧ sk ≠ tr)) σ := by
  refine WC_def0K (fd := fd511) (body := bd511) (n := 2) (names := ["self"]) hK (at511 _) (cd511 _) rfl rfl rfl rfl (BindF_1 fun a => rfl) (by kernel_rfl!) fun L hL Qp hQp => ?_
  refine S_cons ?_
  repeat' w_up
  refine (store_ok hK).use (by decide) fun x s hI_ => ?_
  refine Classical.byContradiction fun hG => ?_
  refine xE5A8 hI_ fun st sd hp sk tr e1 S sub m1 m2 m3 m4 m5 m0 => ?_
  try clear hI_
  subst e1
  obtain ⟨s1, s2, s3, s4, s5, s6, n1, n2, n3, n4⟩ := S
  refine hG ?_
  clear hG
  have h1' := sub _ _ h1
  have h2' := sub _ _ h2
  have d1 : st ≠ ad := fun q => by rw [q] at s1; rw [s1] at h2'; cases h2'
  have d2 : sd ≠ ad := fun q => by rw [q, h2] at m2; cases m2
  have d3 : hp ≠ ad := fun q => by rw [q, h2] at m3; cases m3
  have d4 : sk ≠ ad := fun q => by rw [q, h2] at m4; cases m4
  have d5 : tr ≠ ad := fun q => by rw [q, h2] at m5; cases m5
  have d6 : ar ≠ ad := fun q => by rw [q, h2] at h1; cases h1
  repeat' w_up
  refine W_NameT (t_VOID hK) (by o_inst) ?_
  repeat' w_up
  rename_i xl hxl
  refine W_NameS (s_READ hK) (by o_inst) ?_
  repeat' w_up
  refine W_NameT (t_VOID hK) (by o_inst) ?_
  repeat' w_up
  rename_i ro hro
  refine W_Dict (.dictI (fun _ => none) 0) ⟨rfl, rfl⟩ fun ba hba => ?_
  repeat' w_up
  refine xE0A1 (upd_none hxl) fun x1 x2 => ?_
  have hro' : ro ≠ ad ∧ ro ≠ xl ∧ s ro = none := by
    repeat (first | (have q := upd_none hro; clear hro; obtain ⟨q1, hro⟩ := q))
    exact ⟨by assumption, by assumption, hro⟩
  have hba' : ba ≠ ad ∧ ba ≠ xl ∧ ba ≠ ro ∧ s ba = none := by
    repeat (first | (have q := upd_none hba; clear hba; obtain ⟨q1, hba⟩ := q))
    exact ⟨by assumption, by assumption, by assumption, hba⟩
  clear hxl hro hba
  refine Classical.byContradiction fun hG => ?_
  refine xE0A2 hro' fun y1 y2 y3 => ?_
  try clear hro'
  refine xE0A3 hba' fun z1 z2 z3 z4 => ?_
  try clear hba'
  refine hG ?_
  clear hG
  have N : ∀ {b o}, s b = some o → b ≠ xl ∧ b ≠ ro ∧ b ≠ ba := fun e => ⟨ne_fresh x2 e, ne_fresh y3 e, ne_fresh z4 e⟩
  refine Classical.byContradiction fun hG => ?_
  refine xE0A2 (N s1) fun s11 s12 s13 => ?_
  refine xE0A2 (N s2) fun s21 s22 s23 => ?_
  refine xE0A2 (N s3) fun s31 s32 s33 => ?_
  refine xE0A2 (N s4) fun s41 s42 s43 => ?_
  refine xE0A2 (N s5) fun s51 s52 s53 => ?_
  refine xE0A2 (N h1') fun s61 s62 s63 => ?_
  refine hG ?_
  clear hG
  refine ⟨_, fun _ _ h => h, rfl, st, sd, hp, sk, tr, xl, ro, ba, ?_, ?_, ⟨?_, ?_, ?_, ?_, ?_, s6, n1, n2, n3, n4⟩, ?_, fun b o e hb => ?_, ⟨m1, m2, m3, m4, m5, sub.none x2⟩, Ne.symm s31, Ne.symm s41, Ne.symm s51, m0⟩
  · w_typed
  · exact upd_same _ _ _
  · w_typed
  · w_typed
  · w_typed
  · w_typed
  · w_typed
  · w_typed
  · have e' := sub b o e
    refine xE0A2 (N e') fun b1 b2 b3 => ?_
    w_typed
theorem areas_ok {C : Cx} (hK : C.K = KK C.w.params) {σ : Sg} {bk co : Addr} : WC C (lv 5).P 647 [.ref bk, .ref co, .int 2000, .bool false] (fun x σ' => ∃ ar ad st sd hp sk tr xl ro ba, x = .ref ar ∧ AMade σ σ' bk co ar ad st sd hp sk tr xl ro ba) σ := by
  refine WC_new' (n_647 hK) fun ar ad h1 h2 hne => ?_
  refine WC_def (da := [.int 4096]) (dv := [.int 4096 891]) (fd := fd504) (body := bd504) (n := 3) (names := ["self", "symbols", "code", "max_heap", "occurs", "max_bits"]) (lv 4).P (fun _ h => h) (by rw [hK]; exact at504 _) (by rw [hK]; exact cd504 _) rfl rfl rfl rfl (by rw [hK]; exact bind504 _) (fun _ => .cons (.int _ _) .nil) (by decide +kernel) (by decide +kernel) fun L hL Qp hQp => ?_
  refine S_cons ?_
  repeat' w_up
  refine (reset_ok (bk := bk) (co := co) (ar := ar) (ad := ad) hK (by w_typed) (by exact upd_same _ _ _)).use (by decide) fun x s hI_ => ?_
  refine Classical.byContradiction fun hG => ?_
  refine xE0A1 hI_ fun e1 hz3_ => ?_
  try clear hI_
  refine xE6A0 hz3_ fun st sd hp sk tr xl hz8_ => ?_
  refine xE2A0 hz8_ fun ro ba hz9_ => ?_
  refine xE0A6 hz9_ fun q1 q2 S q3 sub hm d => ?_
  refine xE0A5 hm fun m1 m2 m3 m4 m5 m6 => ?_
  clear hm hz9_ hz8_ hz3_
  refine hG ?_
  clear hG
  subst e1
  refine ⟨rfl, ?_⟩
  repeat' w_up
  have P : ∀ {b}, (upd (upd (upd σ ad (.ns (fun _ => none) 0)) ar (.inst 647 ad)) ad (.ns (a5Ns bk co) 5)) b = none → σ b = none := fun h => by
    repeat (first | (have q := upd_none h; clear h; obtain ⟨q1, h⟩ := q))
    exact h
  refine ⟨s, fun _ _ h => h, rfl, ar, ad, st, sd, hp, sk, tr, xl, ro, ba, rfl, q1, q2, S, q3, fun b o e => sub b o ?_ (ne_fresh h2 e), ⟨h1, h2, P m1, P m2, P m3, P m4, P m5, P m6⟩, d⟩
  have b1 := ne_fresh h2 e
  have b2 := ne_fresh h1 e
  w_typed

section
variable {C : Cx} (hK : C.K = KK C.w.params) {σ : Sg} {st sd bk hp sk tr co ar ad xl ro ba : Addr} {cells : List Cell}
include hK
theorem areas_unify_ok {k k' : Nat} {c c' d d' : Cell} (a1 : σ ar = some (.inst 647 ad)) (a2 : σ ad = some (.ns (areasNs bk co st xl ro ba) 18)) (S : Sto σ st sd bk hp sk tr cells) (hc : Der cells k c c') (hd : Der cells k' d d') (h1 : c'.1 = 0) (h0 : 0 ≤ c'.2) (hl : c'.2 < cells.length) (h2 : (2 ≤ d'.1) ∨ (d'.1 = 0 ∧ d'.2 < c'.2)) :
    WC C (lv 4).P 539 [.ref ar, cv c, cv d] (fun x σ' => x = .bool true ∧ σ' = upd σ hp (.list ((cells.set c'.2.toNat d').map cv))) σ := by
  refine WC_def0K (fd := fd539) (body := bd539) (n := 3) (names := ["self", "c1", "c2"]) hK (at539 _) (cd539 _) rfl rfl rfl rfl (BindF_3 fun a b c => rfl) (by kernel_rfl!) fun L hL Qp hQp => ?_
  refine S_cons ?_
  repeat' w_up
  refine (unify_ok hK S hc hd h1 h0 hl h2).useV (by decide) ?_
  repeat' w_up
theorem set_x_ok {c : Cell} (a1 : σ ar = some (.inst 647 ad)) (a2 : σ ad = some (.ns (areasNs bk co st xl ro ba) 18)) (a3 : σ xl = some (.list [cv (5, 0)])) :
    WC C (lv 1).P 518 [.ref ar, .int 1, cv c] (fun x σ' => x = .none ∧ σ' = upd σ xl (.list [cv (5, 0), cv c])) σ := by
  have d1 : ar ≠ xl := fun q => by rw [q, a3] at a1; cases a1
  have d2 : ad ≠ xl := fun q => by rw [q, a3] at a2; cases a2
  refine WC_def0K (fd := fd518) (body := bd518) (n := 0) (names := ["self", "number", "cell"]) hK (at518 _) (cd518 _) rfl rfl rfl rfl (BindF_3 fun a b c => rfl) (by kernel_rfl!) fun L hL Qp hQp => ?_
  refine S_cons ?_
  refine S_While (fun n loc' σ' => loc' "self" = some (.ref ar) ∧ loc' "number" = some (.int 1) ∧ loc' "cell" = some (cv c) ∧ ((n = 1 ∧ σ' = σ) ∨ (n = 0 ∧ σ' = upd σ xl (.list [cv (5, 0), cv (5, 0)])))) 1 ⟨rfl, rfl, rfl, .inl ⟨rfl, rfl⟩⟩ fun J jJ n loc' σ' hI => ?_
  refine xE0A3 hI fun l1 l2 l3 hI => ?_
  rcases hI with ⟨rfl, rfl⟩ | ⟨rfl, rfl⟩
  · repeat' w_up
    refine W_NameT (t_VOID hK) (by o_inst) ?_
    repeat' w_up
    exact ⟨0, by (first | lia | omega), jJ ⟨l1, l2, l3, .inr ⟨rfl, rfl⟩⟩⟩
  · repeat' w_up
    refine Set_list (upd_same _ _ _) (by decide) (by decide) (by decide) ?_
    rw [upd_upd]
    repeat' w_up
theorem set_arguments_ok {c : Cell} {l : Addr} (a1 : σ ar = some (.inst 647 ad)) (a2 : σ ad = some (.ns (areasNs bk co st xl ro ba) 18)) (a3 : σ xl = some (.list [cv (5, 0)])) (hl : σ l = some (.list [cv c])) (hne : l ≠ xl) :
    WC C (lv 2).P 525 [.ref ar, .ref l] (fun x σ' => x = .none ∧ σ' = upd σ xl (.list [cv (5, 0), cv c])) σ := by
  refine WC_def0K (fd := fd525) (body := bd525) (n := 1) (names := ["self", "cells"]) hK (at525 _) (cd525 _) rfl rfl rfl rfl (BindF_2 fun a b => rfl) (by kernel_rfl!) fun L hL Qp hQp => ?_
  refine S_cons ?_
  repeat' w_up
  refine S_For (.inl (by o_inst)) (I_list ?_)
  repeat' w_up
  refine ⟨_, _, rfl, hl, fun i l' s' => l' "self" = some (.ref ar) ∧ s' l = some (.list [cv c]) ∧ ((i = 0 ∧ l' "number" = some (.int 0) ∧ s' = σ) ∨ (i = 1 ∧ s' = upd σ xl (.list [cv (5, 0), cv c]))), ⟨rfl, hl, .inl ⟨rfl, rfl, rfl⟩⟩, fun _ _ _ h => h.2.1, ?_, ?_⟩
  · intro J jJ i y l' s' hy hI_
    refine xE0A2 hI_ fun l1 _ hI => ?_
    try clear hI_
    rcases hI with ⟨rfl, l2, rfl⟩ | ⟨rfl, rfl⟩
    · cases hy
      repeat' w_up
      refine (set_x_ok hK (c := c) a1 a2 a3).useV (by decide) ?_
      refine ⟨rfl, ?_⟩
      repeat' w_up
      exact jJ ⟨l1, upd_look hne hl, .inr ⟨rfl, rfl⟩⟩
    · cases hy
  · intro l' s' hI_
    refine xE0A2 hI_ fun l1 _ hI => ?_
    try clear hI_
    rcases hI with ⟨h, _⟩ | ⟨_, rfl⟩
    · cases h
    · repeat' w_up
end

theorem O_item_list {C : Cx} {R : Rm} {env : Env} {loc : Loc} {σ : Sg} {a : Addr} {i : Int} {vs : List V} {x : V} {P : V → Sg → Prop} (e : σ a = some (.list vs)) (h0 : 0 ≤ i) (hi : i < 1000000) (hx : vs[i.toNat]? = some x) (h : P x σ) : OpV C R env loc getItem (.ref a) (.int i) P σ := by
  intro u v A s Q E r at_ f hu hv k
  cases hu; cases hv
  refine xE2A1 (at_.list e) fun items n he hr => ?_
  refine xE1A1 (hr.get hx) fun y hy hyr => ?_
  exact PySem.wpAny_getItem_list ⟨_, he, rfl, n, rfl⟩ h0 (by (first | lia | omega)) (by rw [← Array.getElem?_toList]; exact hy) (k _ _ s σ hyr at_ (.refl ..) h)
section
variable {C : Cx} (hK : C.K = KK C.w.params) {σ : Sg}
include hK
theorem digit_ok {po nu : Addr} {c : Int} {ns : List Int} {limit : Nat} (p1 : σ po = some (.list [.int c, .ref nu])) (p2 : σ nu = some (.list (ns.map .int))) (hn : ns ≠ []) (hlen : ns.length ≤ 1000) (h1 : 1 ≤ limit) (h2 : limit ≤ 1000) (hne : po ≠ nu) (hc : 0 ≤ c) :
    WC C (lv 1).P 658 [.ref po, .int limit] (fun x σ' => ∃ (d : Nat) (ns' : List Int), x = .int d ∧ d < limit ∧ ns'.length = ns.length ∧ σ' = upd (upd σ po (.list [.int (c + 1), .ref nu])) nu (.list (ns'.map .int))) σ := by
  refine WC_def0K (fd := fd658) (body := bd658) (n := 0) (names := ["pot", "limit"]) hK (at658 _) (cd658 _) rfl rfl rfl rfl (BindF_2 fun a b => rfl) (by kernel_rfl!) fun L hL Qp hQp => ?_
  refine S_cons ?_
  have hnz : ((ns.length : Nat) : Int) ≠ 0 := by
    have : ns.length ≠ 0 := fun h => hn (List.length_eq_zero_iff.mp h)
    (first | lia | omega)
  have m1 := Int.fmod_nonneg_of_pos c (by (first | lia | omega) : (0 : Int) < ns.length)
  have m2 := Int.fmod_lt_of_pos c (by (first | lia | omega) : (0 : Int) < ns.length)
  obtain ⟨v, hv⟩ : ∃ v, ns[(c.fmod ns.length).toNat]? = some v := ⟨_, List.getElem?_eq_getElem (by (first | lia | omega))⟩
  have hv' : (ns.map V.int)[(c.fmod ns.length).toNat]? = some (.int v) := by rw [List.getElem?_map, hv]; rfl
  have hL : (0 : Int) < limit := by (first | lia | omega)
  have d1 := Int.fmod_nonneg_of_pos v hL
  have d2 := Int.fmod_lt_of_pos v hL
  repeat' w_up
  refine O_sub_list p1 (by decide) (by decide) rfl ?_
  repeat' w_up
  refine O_sub_list p1 (by decide) (by decide) rfl ?_
  repeat' w_up
  rw [List.length_map]
  refine Op_mod hnz ?_
  repeat' w_up
  refine O_item_list p1 (by decide) (by decide) rfl ?_
  repeat' w_up
  refine Set_list p1 (by decide) (by simp) (by simp) ?_
  have es : [V.int c, V.ref nu].set (Int.toNat 0) (V.int (c + 1)) = [V.int (c + 1), V.ref nu] := rfl
  rw [es]
  have p2' : (upd σ po (.list [.int (c + 1), .ref nu])) nu = some (.list (ns.map .int)) := upd_look (Ne.symm hne) p2
  repeat' w_up
  refine O_sub_list p2' m1 (by (first | lia | omega)) hv' ?_
  repeat' w_up
  refine Op_mod (by (first | lia | omega)) ?_
  repeat' w_up
  refine O_sub_list p2' m1 (by (first | lia | omega)) hv' ?_
  repeat' w_up
  refine Op_fdiv (by (first | lia | omega)) (PyProof.noPylong_small (by (first | lia | omega))) ?_
  repeat' w_up
  refine O_sub_list (upd_same _ _ _) (by decide) (by decide) rfl ?_
  repeat' w_up
  refine Set_list p2' m1 (by rw [List.length_map]; exact m2) (by rw [List.length_map]; (first | lia | omega)) ?_
  repeat' w_up
  refine ⟨_, fun _ _ h => h, (v.fmod limit).toNat, ns.set (c.fmod ns.length).toNat (v.fdiv limit + (c + 1)), ?_, by (first | lia | omega), by simp, ?_⟩
  · show V.int _ = V.int _
    congr 1
    (first | lia | omega)
  · rw [List.map_set]
end

set_option genInjectivity false in
set_option genSizeOf false in
structure Ads where (po nu bk bd tx an fu fn ar ad st sd hp sk tr xl co ro ba : Addr)
noncomputable def Ads.all (a : Ads) : List Addr := [a.po, a.nu, a.bk, a.bd, a.tx, a.an, a.fu, a.fn, a.ar, a.ad, a.st, a.sd, a.hp, a.sk, a.tr, a.xl]
/-- the world of the law -/
structure Wd (σ : Sg) (a : Ads) (c : Int) (ns : List Int) (ts : List Str) (fs : List Cell) (cells : List Cell) (xs : List V) : Prop where
  p1 : σ a.po = some (.list [.int c, .ref a.nu])
  p2 : σ a.nu = some (.list (ns.map .int))
  hn : ns ≠ []
  hl : ns.length ≤ 1000
  hc : 0 ≤ c
  B : Bks σ a.bk a.bd a.tx a.an a.fu a.fn ts fs
  a1 : σ a.ar = some (.inst 647 a.ad)
  a2 : σ a.ad = some (.ns (areasNs a.bk a.co a.st a.xl a.ro a.ba) 18)
  S : Sto σ a.st a.sd a.bk a.hp a.sk a.tr cells
  x : σ a.xl = some (.list xs)
  nd : a.all.Nodup
section
variable {σ σ' : Sg} {a : Ads} {c : Int} {ns : List Int} {ts : List Str} {fs : List Cell} {cells : List Cell} {xs : List V}
theorem mA {l : List Addr} {x : Addr} (i : Nat) (h : l[i]? = some x) : x ∈ l := List.mem_of_getElem? h
theorem neA {l : List Addr} {b x : Addr} (hb : b ∉ l) (i : Nat) (h : l[i]? = some x) : b ≠ x := fun q => hb (q ▸ mA i h)
theorem Wd.ne (W : Wd σ a c ns ts fs cells xs) (i j : Fin 16) (h : i ≠ j) : a.all[i.val]'(i.2) ≠ a.all[j.val]'(j.2) := by
  have P := List.pairwise_iff_getElem.mp W.nd
  rcases Nat.lt_trichotomy i.val j.val with q | q | q
  · exact P i.val j.val i.2 j.2 q
  · exact absurd (Fin.ext q) h
  · exact Ne.symm (P j.val i.val j.2 i.2 q)
theorem Wd.same (W : Wd σ a c ns ts fs cells xs) (h : ∀ x ∈ a.all, σ' x = σ x) : Wd σ' a c ns ts fs cells xs := by
  have H : ∀ (i : Nat) {y o}, a.all[i]? = some y → σ y = some o → σ' y = some o := fun i _ _ hy e => (h _ (mA i hy)).trans e
  have B := W.B
  have S := W.S
  exact ⟨H 0 rfl W.p1, H 1 rfl W.p2, W.hn, W.hl, W.hc, ⟨H 2 rfl B.b1, H 3 rfl B.b2, H 4 rfl B.b3, H 5 rfl B.b4, H 6 rfl B.b5, H 7 rfl B.b6, B.l1, B.l2⟩,
    H 8 rfl W.a1, H 9 rfl W.a2, ⟨H 10 rfl S.h1, H 11 rfl S.h2, H 12 rfl S.h3, H 13 rfl S.h4, H 14 rfl S.h5, S.len, S.n1, S.n2, S.n3, S.n4⟩, H 15 rfl W.x, W.nd⟩
theorem Wd.x5 {q : Prop} (W : Wd σ a c ns ts fs cells xs) (k : σ a.ar = some (.inst 647 a.ad) → σ a.ad = some (.ns (areasNs a.bk a.co a.st a.xl a.ro a.ba) 18) → σ a.st = some (.inst 381 a.sd) → σ a.sd = some (.ns (storeNs a.bk a.hp a.sk a.tr) 7) → σ a.hp = some (.list (cells.map cv)) → q) : q := k W.a1 W.a2 W.S.h1 W.S.h2 W.S.h3
theorem Wd.told (W : Wd σ a c ns ts fs cells xs) : ∀ x ∈ a.all, ∃ o, σ x = some o := by
  have B := W.B
  have S := W.S
  have H : ∀ (b : Addr) (o : AO) (l : List Addr), σ b = some o → (∀ x ∈ l, ∃ o, σ x = some o) → ∀ x ∈ b :: l, ∃ o, σ x = some o := fun b o l e k => List.forall_mem_cons.mpr ⟨⟨o, e⟩, k⟩
  exact H _ _ _ W.p1 <| H _ _ _ W.p2 <| H _ _ _ B.b1 <| H _ _ _ B.b2 <| H _ _ _ B.b3 <| H _ _ _ B.b4 <| H _ _ _ B.b5 <| H _ _ _ B.b6 <| H _ _ _ W.a1 <| H _ _ _ W.a2 <|
    H _ _ _ S.h1 <| H _ _ _ S.h2 <| H _ _ _ S.h3 <| H _ _ _ S.h4 <| H _ _ _ S.h5 <| H _ _ _ W.x fun x h => nomatch h
theorem Wd.out (W : Wd σ a c ns ts fs cells xs) {b : Addr} (hb : σ b = none) : b ∉ a.all := fun h => by
  refine xE1A0 (W.told b h) fun o e => ?_
  rw [hb] at e; cases e
theorem Wd.upd (W : Wd σ a c ns ts fs cells xs) {b : Addr} (hb : b ∉ a.all) (o : AO) : Wd (Mine.upd σ b o) a c ns ts fs cells xs :=
  W.same fun x hx => upd_ne _ _ fun e => hb (e ▸ hx)
theorem Wd.digit (W : Wd σ a c ns ts fs cells xs) {ns' : List Int} (h : ns'.length = ns.length) : Wd (Mine.upd (Mine.upd σ a.po (.list [.int (c + 1), .ref a.nu])) a.nu (.list (ns'.map .int))) a (c + 1) ns' ts fs cells xs := by
  have N : ∀ (i : Fin 16), i ≠ 0 → i ≠ 1 → ∀ {o}, σ (a.all[i.val]'(i.2)) = some o → (Mine.upd (Mine.upd σ a.po (.list [.int (c + 1), .ref a.nu])) a.nu (.list (ns'.map .int))) (a.all[i.val]'(i.2)) = some o := fun i h0 h1 o e =>
    upd_look (W.ne i 1 h1) (upd_look (W.ne i 0 h0) e)
  have W' := W
  obtain ⟨p1, p2, hn, hl, hc, ⟨b1, b2, b3, b4, b5, b6, l1, l2⟩, a1, a2, ⟨s1, s2, s3, s4, s5, s6, n1, n2, n3, n4⟩, x, nd⟩ := W
  refine ⟨upd_look (W'.ne 0 1 (by decide)) (upd_same _ _ _), upd_same _ _ _, fun e => hn (List.length_eq_zero_iff.mp (by rw [← h, e]; rfl)), by (first | lia | omega), by (first | lia | omega), ⟨N 2 (by decide) (by decide) b1, N 3 (by decide) (by decide) b2, N 4 (by decide) (by decide) b3, N 5 (by decide) (by decide) b4, N 6 (by decide) (by decide) b5, N 7 (by decide) (by decide) b6, l1, l2⟩,
    N 8 (by decide) (by decide) a1, N 9 (by decide) (by decide) a2, ⟨N 10 (by decide) (by decide) s1, N 11 (by decide) (by decide) s2, N 12 (by decide) (by decide) s3, N 13 (by decide) (by decide) s4, N 14 (by decide) (by decide) s5, s6, n1, n2, n3, n4⟩, N 15 (by decide) (by decide) x, nd⟩
theorem Wd.heap (W : Wd σ a c ns ts fs cells xs) {cells' : List Cell} (h : cells'.length < 2000) : Wd (Mine.upd σ a.hp (.list (cells'.map cv))) a c ns ts fs cells' xs := by
  have N : ∀ (i : Fin 16), i ≠ 12 → ∀ {o}, σ (a.all[i.val]'(i.2)) = some o → (Mine.upd σ a.hp (.list (cells'.map cv))) (a.all[i.val]'(i.2)) = some o := fun i h0 o e => upd_look (W.ne i 12 h0) e
  obtain ⟨p1, p2, hn, hl, hc, ⟨b1, b2, b3, b4, b5, b6, l1, l2⟩, a1, a2, S, x, nd⟩ := W
  exact ⟨N 0 (by decide) p1, N 1 (by decide) p2, hn, hl, hc, ⟨N 2 (by decide) b1, N 3 (by decide) b2, N 4 (by decide) b3, N 5 (by decide) b4, N 6 (by decide) b5, N 7 (by decide) b6, l1, l2⟩, N 8 (by decide) a1, N 9 (by decide) a2, S.set h, N 15 (by decide) x, nd⟩
theorem Wd.setx (W : Wd σ a c ns ts fs cells xs) (xs' : List V) : Wd (Mine.upd σ a.xl (.list xs')) a c ns ts fs cells xs' := by
  have N : ∀ (i : Fin 16), i ≠ 15 → ∀ {o}, σ (a.all[i.val]'(i.2)) = some o → (Mine.upd σ a.xl (.list xs')) (a.all[i.val]'(i.2)) = some o := fun i h0 o e => upd_look (W.ne i 15 h0) e
  obtain ⟨p1, p2, hn, hl, hc, ⟨b1, b2, b3, b4, b5, b6, l1, l2⟩, a1, a2, ⟨s1, s2, s3, s4, s5, s6, n1, n2, n3, n4⟩, x, nd⟩ := W
  exact ⟨N 0 (by decide) p1, N 1 (by decide) p2, hn, hl, hc, ⟨N 2 (by decide) b1, N 3 (by decide) b2, N 4 (by decide) b3, N 5 (by decide) b4, N 6 (by decide) b5, N 7 (by decide) b6, l1, l2⟩, N 8 (by decide) a1, N 9 (by decide) a2, ⟨N 10 (by decide) s1, N 11 (by decide) s2, N 12 (by decide) s3, N 13 (by decide) s4, N 14 (by decide) s5, s6, n1, n2, n3, n4⟩, upd_same _ _ _, nd⟩
theorem Wd.boo (W : Wd σ a c ns ts fs cells xs) : Boo σ a.bk a.bd a.tx a.an a.fu a.fn fs := ⟨W.B.b1, W.B.b2, W.B.b5, Nat.lt_of_lt_of_le W.B.l2 (by decide)⟩
theorem Wd.bka (W : Wd σ a c ns ts fs cells xs) : BkA a.bk a.bd a.tx a.an a.fu a.fn :=
  ⟨⟨W.ne 2 4 (by decide), W.ne 2 5 (by decide), W.ne 2 6 (by decide), W.ne 2 7 (by decide)⟩, ⟨W.ne 3 4 (by decide), W.ne 3 5 (by decide), W.ne 3 6 (by decide), W.ne 3 7 (by decide)⟩, ⟨W.ne 4 5 (by decide), W.ne 4 6 (by decide), W.ne 4 7 (by decide), W.ne 5 6 (by decide), W.ne 5 7 (by decide), W.ne 6 7 (by decide)⟩⟩
end

noncomputable def FsOk (fs : List Cell) : Prop := ∀ m : Nat, 1 ≤ m → m ≤ 3 → ∃ at_ : Int, fs[31 + m]? = some (at_, (m : Int))
theorem HpB.wid {l : Lay} {n N : Nat} {cells fs : List Cell} {dv : Nat → Cell} {av : Nat → Nat → Cell} (h : HpB l n N cells dv av) (F : FsOk fs) {j : Nat} (hj : j < n) (hk : l.kd j ≤ 3) : Wid cells fs (l.nd j) (l.w j) := by
  unfold Lay.nd Lay.w wdK
  by_cases q : l.kd j = 0
  · rw [if_pos q, if_pos q]; exact .lis rfl (by show (0 : Int) ≤ _; (first | lia | omega))
  · rw [if_neg q, if_neg q]
    refine xE1A0 (F (l.kd j) (by (first | lia | omega)) hk) fun at_ hf => ?_
    exact .str (p := (at_, (l.kd j : Int))) rfl (by show (0 : Int) ≤ _; (first | lia | omega)) (h.head j hj q) (by show (0 : Int) ≤ _; (first | lia | omega)) (by show fs[((31 + l.kd j : Nat) : Int).toNat]? = _; exact hf) _ rfl
theorem nd_bas (l : Lay) (j : Nat) : bas (l.nd j) = (l.b j : Int) := by
  unfold Lay.nd Lay.b bas ofK
  by_cases q : l.kd j = 0
  · simp [q]
  · simp [q]
theorem nd_tag (l : Lay) (j : Nat) : (l.nd j).1 = 2 ∨ (l.nd j).1 = 3 := by unfold Lay.nd; split <;> simp
theorem CallB.at' {C : Cx} {R : Rm} {env : Env} {loc : Loc} {σ : Sg} {id : String} {xs : List V} {P : V → Sg → Prop} (K : Sg → Prop) (hk : K σ) (h : ∀ τ, K τ → CallB C R env loc id xs P τ) : CallB C R env loc id xs P σ := h σ hk
structure EdI (σ₀ σ : Sg) (a : Ads) (ts : List Str) (fs : List Cell) (xs : List V) (l : Lay) (N k p : Nat) (av : Nat → Nat → Cell) (tb ro : Addr) (tf : Int → Option V) (n₀ : Nat) (ec : Nat → Nat) (tf' : Int → Option V) (n' : Nat) (c : Int) (ns : List Int) (cells : List Cell) : Prop where
  W : Wd σ a c ns ts fs cells xs
  H : HpB l l.T N cells (fun i => (0, (i : Int))) (fun j q => if j = k ∧ q < p then edC l (ec q) k q else av j q)
  e : ∀ q, ec q < 2 * l.T + 3
  r : σ ro = some (.list ((List.range p).map fun q => .int (edR l (ec q) k q)))
  t : σ tb = some (.dictI tf' n')
  n : n' ≤ n₀ + p
  t1 : ∀ i v, tf i = some v → (∀ q, q < p → i ≠ ((l.b k + q : Nat) : Int)) → tf' i = some v
  t2 : ∀ q, q < p → 2 * l.T + 2 ≤ ec q → tf' ((l.b k + q : Nat) : Int) = some (.int (10 * (k : Int) + q))
  o : ∀ b o, σ₀ b = some o → b ∉ a.all → b ≠ tb → σ b = some o
theorem set_same {α : Type} {l : List α} {i : Nat} {x : α} (h : l[i]? = some x) : l.set i x = l := by
  apply List.ext_getElem?
  intro j
  rw [getElem?_set' _ _ _ _ (List.getElem?_eq_some_iff.mp h).1]
  by_cases q : j = i
  · subst q; rw [if_pos rfl, h]
  · rw [if_neg q]
section
variable {σ₀ σ σ' : Sg} {a : Ads} {ts : List Str} {fs : List Cell} {xs : List V} {l : Lay} {N k p : Nat} {av : Nat → Nat → Cell} {tb ro : Addr} {tf : Int → Option V} {n₀ : Nat} {ec : Nat → Nat} {tf' tf'' : Int → Option V} {n' n'' : Nat} {c c' : Int} {ns ns' : List Int} {cells cells' : List Cell}
theorem EdI.digit (I : EdI σ₀ σ a ts fs xs l N k p av tb ro tf n₀ ec tf' n' c ns cells) (hr : ro ∉ a.all) (ht : tb ∉ a.all) (h : ns'.length = ns.length) :
    EdI σ₀ (upd (upd σ a.po (.list [.int (c + 1), .ref a.nu])) a.nu (.list (ns'.map .int))) a ts fs xs l N k p av tb ro tf n₀ ec tf' n' (c + 1) ns' cells := by
  have m0 : a.po ∈ a.all := mA 0 rfl
  have m1 : a.nu ∈ a.all := mA 1 rfl
  have K : ∀ {b o}, b ∉ a.all → σ b = some o → (upd (upd σ a.po (.list [.int (c + 1), .ref a.nu])) a.nu (.list (ns'.map .int))) b = some o := fun hb e => upd_look (fun q => hb (q ▸ m1)) (upd_look (fun q => hb (q ▸ m0)) e)
  exact ⟨I.W.digit h, I.H, I.e, K hr I.r, K ht I.t, I.n, I.t1, I.t2, fun b o e h1 h2 => K h1 (I.o b o e h1 h2)⟩
theorem EdI.next (I : EdI σ₀ σ a ts fs xs l N k p av tb ro tf n₀ ec tf' n' c ns cells) (LO : LayOk l l.T N) (hk : k < l.T) (hp : p < l.w k) {d : Nat} (hd : d < 2 * l.T + 3) (W' : Wd σ' a c ns ts fs (cells.set (l.b k + p) (edC l d k p)) xs)
    (r' : σ' ro = some (.list ((List.range p).map (fun q => .int (edR l (ec q) k q)) ++ [.int (edR l d k p)])))
    (t' : (d < 2 * l.T + 2 ∧ σ' tb = some (.dictI tf' n')) ∨ (2 * l.T + 2 ≤ d ∧ σ' tb = some (.dictI (fun i => if i = ((l.b k + p : Nat) : Int) then some (.int (10 * (k : Int) + p)) else tf' i) (n' + 1))))
    (o' : ∀ b, b ∉ a.all → b ≠ tb → b ≠ ro → σ' b = σ b) (hro : σ₀ ro = none) :
    ∃ ec tf' n' c' ns' cells', EdI σ₀ σ' a ts fs xs l N k (p + 1) av tb ro tf n₀ ec tf' n' c' ns' cells' := by
  have eH : updA (fun j q => if j = k ∧ q < p then edC l (ec q) k q else av j q) k p (edC l d k p) = fun j q => if j = k ∧ q < p + 1 then edC l (if q = p then d else ec q) k q else av j q := by
    funext j q
    unfold updA
    by_cases h1 : j = k
    · subst h1
      by_cases h2 : q = p
      · subst h2; simp
      · by_cases h3 : q < p
        · have : q < p + 1 := by (first | lia | omega)
          simp [h2, h3, this]
        · have : ¬ q < p + 1 := by (first | lia | omega)
          simp [h2, h3, this]
    · simp [h1]
  have eR : (List.range (p + 1)).map (fun q => V.int (edR l (if q = p then d else ec q) k q)) = (List.range p).map (fun q => V.int (edR l (ec q) k q)) ++ [.int (edR l d k p)] := by
    rw [List.range_succ, List.map_append]
    congr 1
    · refine List.map_congr_left fun q hq => ?_
      have := List.mem_range.mp hq
      rw [if_neg (by (first | lia | omega))]
    · simp
  have o2 : ∀ b o, σ₀ b = some o → b ∉ a.all → b ≠ tb → σ' b = some o := fun b o e h1 h2 => (o' b h1 h2 (ne_fresh hro e)).trans (I.o b o e h1 h2)
  have H' := I.H.setA LO hk hp (edC l d k p)
  rw [eH] at H'
  have e' : ∀ q, (if q = p then d else ec q) < 2 * l.T + 3 := fun q => by
    split
    · exact hd
    · exact I.e q
  rcases t' with ⟨h1, t'⟩ | ⟨h1, t'⟩
  · refine ⟨fun q => if q = p then d else ec q, tf', n', c, ns, _, W', H', e', by rw [eR]; exact r', t', by have := I.n; (first | lia | omega), fun i v hv hq => I.t1 i v hv fun q h => hq q (by (first | lia | omega)), fun q hq h2 => ?_, o2⟩
    by_cases z : q = p
    · rw [if_pos z] at h2; (first | lia | omega)
    · rw [if_neg z] at h2; exact I.t2 q (by (first | lia | omega)) h2
  · refine ⟨fun q => if q = p then d else ec q, _, n' + 1, c, ns, _, W', H', e', by rw [eR]; exact r', t', by have := I.n; (first | lia | omega), fun i v hv hq => ?_, fun q hq h2 => ?_, o2⟩
    · rw [if_neg (hq p (by (first | lia | omega)))]; exact I.t1 i v hv fun q h => hq q (by (first | lia | omega))
    · by_cases z : q = p
      · subst z; rw [if_pos rfl]
      · rw [if_neg z] at h2; rw [if_neg (by (first | lia | omega))]; exact I.t2 q (by (first | lia | omega)) h2
end
section
variable {C : Cx} (hK : C.K = KK C.w.params) {σ : Sg} {a : Ads} {c : Int} {ns : List Int} {ts : List Str} {fs : List Cell} {cells : List Cell} {xs : List V}
include hK
theorem edges_ok {l : Lay} {N k : Nat} {av : Nat → Nat → Cell} {no dr tb : Addr} {tf : Int → Option V} {n : Nat} (W : Wd σ a c ns ts fs cells xs) (LO : LayOk l l.T N) (hN : N < 1900) (hk : k < l.T) (H : HpB l l.T N cells (fun i => (0, (i : Int))) av) (hav : ∀ p, p < l.w k → av k p = (0, ((l.b k + p : Nat) : Int)))
    (F : FsOk fs) (h1 : σ no = some (.list ((List.range l.T).map fun j => cv (l.nd j)))) (h2 : σ dr = some (.list ((List.range l.T).map fun (j : Nat) => cv (0, (j : Int))))) (h3 : σ tb = some (.dictI tf n)) (hn : n ≤ 1000) (o1 : no ∉ a.all) (o2 : dr ∉ a.all) (o3 : tb ∉ a.all) :
    WC C (lv 5).P 665 [.ref a.po, .ref a.ar, .int k, .ref no, .ref dr, .ref tb] (fun x σ' => ∃ ro ec tf' n' c' ns' cells', x = .ref ro ∧ σ ro = none ∧ EdI σ σ' a ts fs xs l N k (l.w k) av tb ro tf n ec tf' n' c' ns' cells') σ := by
  refine WC_def0K (fd := fd665) (body := bd665) (n := 4) (names := ["pot", "areas", "k", "nodes", "doors", "table"]) hK (at665 _) (cd665 _) rfl rfl rfl rfl ?_ (by kernel_rfl!) fun L hL Qp hQp => ?_
  · intro s vals _ hl
    refine xE6A0 (len6 hl) fun a b c d e f hr1_ => ?_
    obtain rfl := hr1_
    exact .of_eq (by rfl)
  refine S_cons ?_
  repeat' w_up
  rename_i ro hro
  have r1 := ne_fresh hro h1
  have r2 := ne_fresh hro h2
  have r3 := ne_fresh hro h3
  have ro0 := W.out hro
  have hT := LO.t5
  have hw3 : l.w k ≤ 3 := by have := LO.kd k hk; unfold Lay.w wdK; split <;> (first | lia | omega)
  have gl : ∀ {α : Type} (f : Nat → α) (m i : Nat), i < m → ((List.range m).map f)[i]? = some (f i) := fun f m i hi => by rw [List.getElem?_map, List.getElem?_range hi]; rfl
  refine CallB.at' (fun τ => EdI σ τ a ts fs xs l N k 0 av tb ro tf n (fun _ => 0) tf n c ns cells) ⟨W.upd ro0 _, ?_, fun _ => by (first | lia | omega), upd_same _ _ _, upd_look r3 h3, Nat.le_refl _, fun _ _ h _ => h, fun q hq => absurd hq (Nat.not_lt_zero _), fun b o e _ _ => upd_look (ne_fresh hro e) e⟩ fun τ I0 => ?_
  · have : (fun j q => if j = k ∧ q < 0 then edC l 0 k q else av j q) = av := by funext j q; rw [if_neg (by (first | lia | omega))]
    rw [this]; exact H
  have n1 := I0.o _ _ h1 o1 (fun q => by rw [q, h3] at h1; cases h1)
  have n2 := I0.o _ _ h2 o2 (fun q => by rw [q, h3] at h2; cases h2)
  refine B_len n1 (by simp; (first | lia | omega)) ?_
  rw [List.length_map, List.length_range]
  repeat' w_up
  have W1 := I0.W
  have S1 := W1.S
  refine W1.x5 fun a1 a2 s1 s2 s3 => ?_
  refine S_For (.inl (by o_inst)) (I_range1 (by w_side) PyProof.Rows.boot_range (by decide) (by o_inst) ?_)
  repeat' w_up
  refine O_sub_list n1 (by (first | lia | omega)) (by (first | lia | omega)) (gl _ _ _ (by simpa using hk)) ?_
  repeat' w_up
  refine (width_ok hK S1 I0.W.boo (H.wid F hk (LO.kd k hk))).useV (by decide) ?_
  repeat' w_up
  refine ⟨_, rfl, by (first | lia | omega), by (first | lia | omega), fun p l' s' => l' "pot" = some (.ref a.po) ∧ l' "areas" = some (.ref a.ar) ∧ l' "k" = some (.int k) ∧ l' "nodes" = some (.ref no) ∧ l' "doors" = some (.ref dr) ∧ l' "table" = some (.ref tb) ∧ l' "row" = some (.ref ro) ∧ l' "total" = some (.int l.T) ∧
    ∃ ec tf' n' c' ns' cells', EdI σ s' a ts fs xs l N k p av tb ro tf n ec tf' n' c' ns' cells', ⟨rfl, rfl, rfl, rfl, rfl, rfl, rfl, rfl, _, _, _, _, _, _, I0⟩, fun _ _ _ _ => trivial, ?_, ?_⟩
  · intro J jJ p y l' s' hy hI_
    refine xE0A8 hI_ fun l1 l2 l3 l4 l5 l6 l7 l8 hz2_ => ?_
    try clear hI_
    refine xE6A0 hz2_ fun ec tf' n' c' ns' cells' I => ?_
    clear hz2_
    refine xE0A1 (steps_01 _ hy) fun hp hr3_ => ?_
    obtain rfl := hr3_
    have hp' : p < l.w k := by simpa using hp
    clear hy hp W I0 n1 n2 S1 a1 a2 s1 s2 s3
    have W := I.W
    have S1 := W.S
    refine I.W.x5 fun a1 a2 s1 s2 s3 => ?_
    have n1 := I.o _ _ h1 o1 (fun q => by rw [q, h3] at h1; cases h1)
    have n2 := I.o _ _ h2 o2 (fun q => by rw [q, h3] at h2; cases h2)
    have hcell := I.H.args k p hk hp'
    rw [if_neg (by (first | lia | omega)), hav p hp'] at hcell
    repeat' w_up
    refine O_sub_list n1 (by (first | lia | omega)) (by (first | lia | omega)) (gl _ _ _ (by simpa using hk)) ?_
    repeat' w_up
    refine (arg_ok hK (c := l.nd k) (i := (p : Int) + 1) (d := (0, ((l.b k + p : Nat) : Int))) S1 (nd_bas l k) (by (first | lia | omega)) (by rw [← hcell]; congr 1; (first | lia | omega))).useV (by decide) ?_
    repeat' w_up
    have e23 : (2 : Int) * (l.T : Int) + 3 = ((2 * l.T + 3 : Nat) : Int) := by (first | lia | omega)
    rw [e23]
    have hI := I
    refine (digit_ok hK (limit := 2 * l.T + 3) W.p1 W.p2 W.hn W.hl (by (first | lia | omega)) (by (first | lia | omega)) (W.ne 0 1 (by decide)) W.hc).use (by decide) fun x s hI_ => ?_
    refine xE2A3 hI_ fun d nsd e1 hd hlen e2 => ?_
    try clear hI_
    have I2 := I.digit (ns' := nsd) ro0 o3 hlen
    rw [← e2] at I2
    subst e1
    clear e2 I hI W S1 a1 a2 s1 s2 s3 n1 n2
    have W := I2.W
    have S1 := W.S
    refine I2.W.x5 fun a1 a2 s1 s2 s3 => ?_
    have n1 := I2.o _ _ h1 o1 (fun q => by rw [q, h3] at h1; cases h1)
    have n2 := I2.o _ _ h2 o2 (fun q => by rw [q, h3] at h2; cases h2)
    have hr2 := I2.r
    have hpM : a.hp ∈ a.all := mA 12 rfl
    have rh : ro ≠ a.hp := fun q => ro0 (q ▸ hpM)
    have hraw : Der cells' 0 (0, ((l.b k + p : Nat) : Int)) (0, ((l.b k + p : Nat) : Int)) := .self rfl (by show (0 : Int) ≤ _; (first | lia | omega)) (by show cells'[((l.b k + p : Nat) : Int).toNat]? = _; rw [Int.toNat_natCast]; exact hcell)
    have hin : l.b k + p < cells'.length := (List.getElem?_eq_some_iff.mp hcell).1
    repeat' w_up
    · have hd1 : d < l.T := by (first | lia | omega)
      have E : edC l d k p = l.nd d := by unfold edC; rw [if_pos hd1]
      have E2 : edR l d k p = (d : Int) := by unfold edR; rw [if_pos hd1]
      have ht := nd_tag l d
      refine O_sub_list n1 (by (first | lia | omega)) (by (first | lia | omega)) (gl _ _ d hd1) ?_
      repeat' w_up
      refine (areas_unify_ok hK (c := (0, ((l.b k + p : Nat) : Int))) (d := l.nd d) a1 a2 S1 hraw (.stop (by (first | lia | omega)) (by (first | lia | omega))) rfl (by show (0 : Int) ≤ _; (first | lia | omega)) (by show ((l.b k + p : Nat) : Int) < _; (first | lia | omega)) (.inl (by (first | lia | omega)))).useV (by decide) ?_
      refine ⟨rfl, ?_⟩
      rw [Int.toNat_natCast]
      repeat' w_up
      refine jJ ⟨l1, l2, l3, l4, l5, l6, l7, l8, I2.next LO hk hp' hd (by rw [E]; exact (W.heap (by rw [List.length_set]; exact S1.len)).upd ro0 _) (by rw [E2]; exact upd_same _ _ _) (.inl ⟨by (first | lia | omega), upd_look r3 (upd_look (fun q => o3 (q ▸ hpM)) I2.t)⟩) (fun b q1 q2 q3 => (upd_ne _ _ q3).trans (upd_ne _ _ (fun q => q1 (by rw [q]; exact hpM)))) hro⟩
    · have hd1 : ¬ d < l.T := by (first | lia | omega)
      have hd2 : d < 2 * l.T := by (first | lia | omega)
      have E : edC l d k p = (0, ((d - l.T : Nat) : Int)) := by unfold edC; rw [if_neg hd1, if_pos hd2]
      have E2 : edR l d k p = (d : Int) - l.T := by unfold edR; rw [if_neg hd1, if_pos hd2]; (first | lia | omega)
      have hdoor := I2.H.door (d - l.T) (by (first | lia | omega))
      have hlo := LO.lo k hk
      refine O_sub_list n2 (by (first | lia | omega)) (by (first | lia | omega)) (x := cv (0, ((d - l.T : Nat) : Int))) (by rw [show ((d : Int) - (l.T : Int)).toNat = d - l.T by (first | lia | omega)]; exact gl (fun (j : Nat) => cv (0, (j : Int))) _ _ (by (first | lia | omega))) ?_
      repeat' w_up
      refine (areas_unify_ok hK (c := (0, ((l.b k + p : Nat) : Int))) (d := (0, ((d - l.T : Nat) : Int))) a1 a2 S1 hraw (.self rfl (by show (0 : Int) ≤ _; (first | lia | omega)) (by show cells'[((d - l.T : Nat) : Int).toNat]? = _; rw [Int.toNat_natCast]; exact hdoor)) rfl (by show (0 : Int) ≤ _; (first | lia | omega)) (by show ((l.b k + p : Nat) : Int) < _; (first | lia | omega)) (.inr ⟨rfl, by show ((d - l.T : Nat) : Int) < ((l.b k + p : Nat) : Int); unfold Lay.b; (first | lia | omega)⟩)).useV (by decide) ?_
      refine ⟨rfl, ?_⟩
      rw [Int.toNat_natCast]
      repeat' w_up
      refine jJ ⟨l1, l2, l3, l4, l5, l6, l7, l8, I2.next LO hk hp' hd (by rw [E]; exact (W.heap (by rw [List.length_set]; exact S1.len)).upd ro0 _) (by rw [E2]; exact upd_same _ _ _) (.inl ⟨by (first | lia | omega), upd_look r3 (upd_look (fun q => o3 (q ▸ hpM)) I2.t)⟩) (fun b q1 q2 q3 => (upd_ne _ _ q3).trans (upd_ne _ _ (fun q => q1 (by rw [q]; exact hpM)))) hro⟩
    · have hd1 : ¬ d < l.T := by (first | lia | omega)
      have hd2 : ¬ d < 2 * l.T := by (first | lia | omega)
      have hd3 : d = 2 * l.T := by (first | lia | omega)
      have E : edC l d k p = (4, 0) := by unfold edC; rw [if_neg hd1, if_neg hd2, if_pos hd3]
      have E2 : edR l d k p = -1 := by unfold edR; rw [if_neg hd1, if_neg hd2, if_pos hd3]
      refine (areas_unify_ok hK (c := (0, ((l.b k + p : Nat) : Int))) (d := (4, 0)) a1 a2 S1 hraw (.stop (by decide) (by decide)) rfl (by show (0 : Int) ≤ _; (first | lia | omega)) (by show ((l.b k + p : Nat) : Int) < _; (first | lia | omega)) (.inl (by decide))).useV (by decide) ?_
      refine ⟨rfl, ?_⟩
      rw [Int.toNat_natCast]
      repeat' w_up
      refine jJ ⟨l1, l2, l3, l4, l5, l6, l7, l8, I2.next LO hk hp' hd (by rw [E]; exact (W.heap (by rw [List.length_set]; exact S1.len)).upd ro0 _) (by rw [E2]; exact upd_same _ _ _) (.inl ⟨by (first | lia | omega), upd_look r3 (upd_look (fun q => o3 (q ▸ hpM)) I2.t)⟩) (fun b q1 q2 q3 => (upd_ne _ _ q3).trans (upd_ne _ _ (fun q => q1 (by rw [q]; exact hpM)))) hro⟩
    · have hd1 : ¬ d < l.T := by (first | lia | omega)
      have hd2 : ¬ d < 2 * l.T := by (first | lia | omega)
      have hd3 : ¬ d = 2 * l.T := by (first | lia | omega)
      have hd4 : d = 2 * l.T + 1 := by (first | lia | omega)
      have E : edC l d k p = (5, 7) := by unfold edC; rw [if_neg hd1, if_neg hd2, if_neg hd3, if_pos hd4]
      have E2 : edR l d k p = -2 := by unfold edR; rw [if_neg hd1, if_neg hd2, if_neg hd3, if_pos hd4]
      refine (areas_unify_ok hK (c := (0, ((l.b k + p : Nat) : Int))) (d := (5, 7)) a1 a2 S1 hraw (.stop (by decide) (by decide)) rfl (by show (0 : Int) ≤ _; (first | lia | omega)) (by show ((l.b k + p : Nat) : Int) < _; (first | lia | omega)) (.inl (by decide))).useV (by decide) ?_
      refine ⟨rfl, ?_⟩
      rw [Int.toNat_natCast]
      repeat' w_up
      refine jJ ⟨l1, l2, l3, l4, l5, l6, l7, l8, I2.next LO hk hp' hd (by rw [E]; exact (W.heap (by rw [List.length_set]; exact S1.len)).upd ro0 _) (by rw [E2]; exact upd_same _ _ _) (.inl ⟨by (first | lia | omega), upd_look r3 (upd_look (fun q => o3 (q ▸ hpM)) I2.t)⟩) (fun b q1 q2 q3 => (upd_ne _ _ q3).trans (upd_ne _ _ (fun q => q1 (by rw [q]; exact hpM)))) hro⟩
    · have hd1 : ¬ d < l.T := by (first | lia | omega)
      have hd2 : ¬ d < 2 * l.T := by (first | lia | omega)
      have hd3 : ¬ d = 2 * l.T := by (first | lia | omega)
      have hd4 : ¬ d = 2 * l.T + 1 := by (first | lia | omega)
      have E : edC l d k p = (0, ((l.b k + p : Nat) : Int)) := by unfold edC; rw [if_neg hd1, if_neg hd2, if_neg hd3, if_neg hd4]
      have E2 : edR l d k p = -3 - 10 * (k : Int) - p := by unfold edR; rw [if_neg hd1, if_neg hd2, if_neg hd3, if_neg hd4]
      have hnn := I2.n
      refine Set_dictI I2.t (by (first | lia | omega)) ?_
      have hr3 := upd_look (o' := .dictI (fun j => if j = ((l.b k + p : Nat) : Int) then some (.int (10 * (k : Int) + p)) else tf' j) (n' + 1)) (Ne.symm r3) hr2
      repeat' w_up
      exact jJ ⟨l1, l2, l3, l4, l5, l6, l7, l8, I2.next LO hk hp' hd (by rw [E, set_same hcell]; exact (W.upd o3 _).upd ro0 _) (by rw [E2]; exact upd_same _ _ _) (.inr ⟨by (first | lia | omega), upd_look r3 (upd_same _ _ _)⟩) (fun b q1 q2 q3 => (upd_ne _ _ q3).trans (upd_ne _ _ q2)) hro⟩
  · intro l' s' hI_
    refine xE0A8 hI_ fun l1 l2 l3 l4 l5 l6 l7 l8 hz4_ => ?_
    try clear hI_
    refine xE6A0 hz4_ fun ec tf' n' c' ns' cells' I => ?_
    clear hz4_
    rw [steps_length, Int.toNat_natCast] at I
    repeat' w_up
    exact ⟨s', fun _ _ h => h, ro, ec, tf', n', c', ns', cells', rfl, hro, I⟩
end

section
variable {C : Cx} {R : Rm} {env : Env} {loc : Loc} {σ : Sg}
theorem W_isStr {e : Expr} {gp np pos : Pos} {P : V → Sg → Prop} (hv : nsIn C.K mainGlobals "isinstance" = some none) (hv2 : nsIn C.K mainGlobals "str" = some none) (hk : env.kindOf "isinstance" = some .globalImplicit) (hk2 : env.kindOf "str" = some .globalImplicit)
    (h : WE C R env loc (eval e env) (fun x σ₁ => (∃ t, x = .str t) ∧ P (.bool true) σ₁) σ) (he : starEach [e, .Name "str" np] env = [(false, eval e env), (false, eval (.Name "str" np) env)] := by rfl) : WE C R env loc (eval (.Call (.Name "isinstance" gp) [e, .Name "str" np] [] pos) env) P σ := by
  intro A s Q E r a f k
  refine wpAny_Call_Name_kw (wp_NameB a f hv PyProof.Rows.boot_isinstance (by decide) hk ?_)
  rw [he]
  refine Calls.callWith_builtin rfl (evalArgs_of rfl ?_)
  show wpAny _ _ (spliced [(false, eval e env), _]) _ _ _
  refine Calls.spliced_cons (h A s _ E r a f fun v x s₁ σ₁ e1 e2 e3 e4 => ?_)
  refine xE0A1 e4 fun hr1_ hP => ?_
  try clear e4
  refine xE1A0 hr1_ fun t hr1_ => ?_
  obtain rfl := hr1_
  cases e1
  have f1 := f.step a e3
  refine Calls.spliced_cons (wp_NameB e2 f1 hv2 PyProof.Rows.boot_str (by decide) hk2 ?_)
  refine Calls.spliced_nil ?_
  refine PyProof.Rows.call_isinstance_yes (typeIs_str _ _ _) PyProof.Rows.meta_str PyProof.Rows.sub_str_str ?_
  exact k _ _ s₁ σ₁ (.bool _) e2 e3 hP

theorem S_AssignAttrE {X : XT C R env} {P : Fl → Loc → Sg → Prop} {o value : Expr} {name : Str} {pos' pos : Pos}
    (h : WE C R env loc (eval value env) (fun y σ₁ => WE C R env loc (eval o env) (fun x σ₂ => ∃ a Cl t, x = .ref a ∧ σ₂ a = some (.exc Cl t none) ∧ stoE C.K Cl name = true ∧ ∀ d, σ₂ d = none → P .next loc (upd (upd σ₂ a (.exc Cl t (some d))) d (.ns (setF (fun _ => none) name y) 1))) σ₁) σ)
    (hs : swapsWith value (some (.Attribute o name pos')) pos.line env = pure false := by rfl) : WS C R env X (exec (.Assign [.Attribute o name pos'] value pos) env) P loc σ := by
  intro A s Q E r a f k kx
  refine plainObj_wpAny_Assign_Attribute (h A s _ E r a f fun v y s₁ σ₁ e1 e2 e3 e4 => ?_) hs
  have f1 := f.step a e3
  refine e4 A s₁ _ E r e2 f1 fun u x s₂ σ₂ z1 z2 z3 z4 => ?_
  refine xE3A3 z4 fun ad Cl t hr2_ q1 q2 q3 => ?_
  try clear z4
  obtain rfl := hr2_
  cases z1
  have f2 := f1.step e2 z3
  refine wp_setAttrE z2 q1 q2 (z3.rep e2 e1) fun d s' hd a' st => ?_
  exact k _ _ s' loc _ .next a' (f2.step z2 st) ((e3.trans (z3.trans st)).own) (q3 d hd)
end
/-- a told exception -/
noncomputable def excS (σ : Sg) (e t d : Addr) (b : V) : Sg := upd (upd σ e (.exc 51 t (some d))) d (.ns (setF (fun _ => none) "ball" b) 1)
section
variable {C : Cx} (hK : C.K = KK C.w.params) {σ : Sg}
include hK
theorem exc_init_ok {e t : Addr} {b : V} (h : σ e = some (.exc 51 t none)) : WC C (lv 1).P 48 [.ref e, b] (fun x σ' => x = .none ∧ ∃ d, σ d = none ∧ σ' = excS σ e t d b) σ := by
  refine WC_def0K (fd := fd48) (body := bd48) (n := 0) (names := ["self", "ball"]) hK (at48 _) (cd48 _) rfl rfl rfl rfl (BindF_2 fun a b => rfl) (by kernel_rfl!) fun L hL Qp hQp => ?_
  refine S_cons ?_
  refine S_AssignAttrE ?_
  repeat' w_up
  refine ⟨e, 51, t, rfl, h, e_ball hK, fun d hd => ?_⟩
  repeat' w_up
  exact ⟨_, fun _ _ h => h, rfl, d, hd, rfl⟩
theorem prolog_ok {b : V} : WC C (lv 2).P 51 [b] (fun x σ' => ∃ e t d, x = .ref e ∧ σ e = none ∧ σ d = none ∧ d ≠ e ∧ σ' = excS σ e t d b) σ := by
  refine WC_newE (R' := (lv 1).P) (fun A vals r => lv_under r 51 vals) (n_51 hK) (by simp) fun e t he => ?_
  refine (exc_init_ok hK (t := t) (upd_same _ _ _)).use (by decide) fun x s ⟨e1, d, hd, e2⟩ => ⟨e1, e, t, d, rfl, he, (upd_none hd).2, (upd_none hd).1, ?_⟩
  rw [e2]; unfold excS; rw [upd_upd]
theorem system_error_ok {b : V} : WC C (lv 3).P 165 [b] (fun x σ' => ∃ e t d, x = .ref e ∧ σ e = none ∧ σ d = none ∧ d ≠ e ∧ σ' = excS σ e t d (.tup [.str "s", .int 16, .tup [b, .tup [.str "a", .int 25]]])) σ := by
  refine WC_def0K (fd := fd165) (body := bd165) (n := 2) (names := ["formal"]) hK (at165 _) (cd165 _) rfl rfl rfl rfl (BindF_1 fun a => rfl) (by kernel_rfl!) fun L hL Qp hQp => ?_
  refine S_cons ?_
  repeat' w_up
  refine (prolog_ok hK).use (by decide) fun x s hI_ => ?_
  refine xE3A4 hI_ fun e t d e1 h1 h2 h3 e2 => ?_
  try clear hI_
  subst e1 e2
  repeat' w_up
  exact ⟨_, fun _ _ h => h, e, t, d, rfl, h1, h2, h3, rfl⟩
variable {bk bd tx an fu fn : Addr} {ts : List Str} {fs : List Cell}
theorem func_known {t : Str} {n : Int} {ka kf : Nat} (B : Bks σ bk bd tx an fu fn ts fs) (h1 : posOf ts t = some ka) (h2 : posOf fs ((ka : Int), n) = some kf) : WC C (lv 2).P 109 [.ref bk, .str t, .int n] (fun x σ' => x = .int kf ∧ σ' = σ) σ := by
  have B' := B
  obtain ⟨b1, b2, b3, b4, b5, b6, l1, l2⟩ := B
  refine WC_def0K (fd := fd109) (body := bd109) (n := 1) (names := ["self", "text", "arity"]) hK (at109 _) (cd109 _) rfl rfl rfl rfl (BindF_3 fun a b c => rfl) (by kernel_rfl!) fun L hL Qp hQp => ?_
  refine S_cons ?_
  repeat' w_up
  refine (atom_known hK B' h1).useV (by decide) ?_
  repeat' w_up
  refine (functor_known hK (c := ((ka : Int), n)) B' h2).useV (by decide) ?_
  repeat' w_up
theorem formal_of_ok {ka km kf : Nat} (B : Bks σ bk bd tx an fu fn ts fs) (h0 : posOf ts "memory" = some km) (h1 : posOf ts "resource_error" = some ka) (h2 : posOf fs ((ka : Int), 1) = some kf) :
    WC C (lv 3).P 172 [.ref bk, .str "resource_error", .tup [.str "memory"]] (fun x σ' => x = .tup [.str "s", .int kf, .tup [.tup [.str "a", .int km]]] ∧ σ' = σ) σ := by
  have B' := B
  obtain ⟨b1, b2, b3, b4, b5, b6, l1, l2⟩ := B
  refine WC_def0K (fd := fd172) (body := bd172) (n := 2) (names := ["symbols", "name", "parts"]) hK (at172 _) (cd172 _) rfl rfl rfl rfl (BindF_3 fun a b c => rfl) (by kernel_rfl!) fun L hL Qp hQp => ?_
  refine S_cons ?_
  repeat' w_up
  rename_i ar har
  have BB : ∀ (vs : List V), Bks (upd σ ar (.list vs)) bk bd tx an fu fn ts fs := fun vs =>
    ⟨upd_look (ne_fresh har b1) b1, upd_look (ne_fresh har b2) b2, upd_look (ne_fresh har b3) b3, upd_look (ne_fresh har b4) b4, upd_look (ne_fresh har b5) b5, upd_look (ne_fresh har b6) b6, l1, l2⟩
  refine S_For (.inl (by o_inst)) (I_tup ?_)
  w_up
  refine ⟨_, rfl, fun i l' s' => l' "symbols" = some (.ref bk) ∧ l' "name" = some (.str "resource_error") ∧ l' "args" = some (.ref ar) ∧ ((i = 0 ∧ s' = upd σ ar (.list [])) ∨ (i = 1 ∧ s' = upd σ ar (.list [.tup [.str "a", .int km]]))), ⟨rfl, rfl, rfl, .inl ⟨rfl, rfl⟩⟩, fun _ _ _ _ => trivial, ?_, ?_⟩
  · intro J jJ i y l' s' hy hI_
    refine xE0A3 hI_ fun q1 q2 q3 hI => ?_
    try clear hI_
    rcases hI with ⟨rfl, rfl⟩ | ⟨rfl, rfl⟩
    · cases hy
      repeat' w_up
      refine W_isStr (by w_side) (by w_side) (by o_inst) (by o_inst) ?_
      w_up
      refine ⟨⟨_, rfl⟩, true, rfl, (fun _ _ q => (nomatch q)), ?_⟩
      repeat' w_up
      refine (atom_known hK (BB _) h0).useV (by decide) ?_
      repeat' w_up
      rw [upd_upd]
      exact jJ ⟨q1, q2, q3, .inr ⟨rfl, rfl⟩⟩
    · cases hy
  · intro l' s' hI_
    refine xE0A3 hI_ fun q1 q2 q3 hI => ?_
    try clear hI_
    rcases hI with ⟨h, _⟩ | ⟨_, rfl⟩
    · cases h
    · repeat' w_up
      refine (func_known hK (n := 1) (BB _) h1 h2).useV (by decide) ?_
      repeat' w_up
      refine T_tuple (upd_same _ _ _) (by simp) ?_
      repeat' w_up
noncomputable def ballV (kf km : Nat) : V := .tup [.str "s", .int 16, .tup [.tup [.str "s", .int kf, .tup [.tup [.str "a", .int km]]], .tup [.str "a", .int 25]]]
theorem resource_error_ok {ka km kf : Nat} (B : Bks σ bk bd tx an fu fn ts fs) (h0 : posOf ts "memory" = some km) (h1 : posOf ts "resource_error" = some ka) (h2 : posOf fs ((ka : Int), 1) = some kf) :
    WC C (lv 4).P 179 [.ref bk, .str "memory"] (fun x σ' => ∃ e t d, x = .ref e ∧ σ e = none ∧ σ d = none ∧ d ≠ e ∧ σ' = excS σ e t d (ballV kf km)) σ := by
  refine WC_def0K (fd := fd179) (body := bd179) (n := 3) (names := ["symbols", "what"]) hK (at179 _) (cd179 _) rfl rfl rfl rfl (BindF_2 fun a b => rfl) (by kernel_rfl!) fun L hL Qp hQp => ?_
  refine S_cons ?_
  repeat' w_up
  refine (formal_of_ok hK B h0 h1 h2).useV (by decide) ?_
  repeat' w_up
  refine (system_error_ok hK).use (by decide) fun x s hI_ => ?_
  refine xE3A4 hI_ fun e t d e1 h1 h2 h3 e2 => ?_
  try clear hI_
  subst e1 e2
  repeat' w_up
  exact ⟨_, fun _ _ h => h, e, t, d, rfl, h1, h2, h3, rfl⟩
end

section
variable {C : Cx} (hK : C.K = KK C.w.params) {σ : Sg} {st sd bk hp sk tr bd fu fn tx an : Addr} {cells fs : List Cell}
include hK
theorem functor_of_ok {c : Cell} {f : Int} (S : Sto σ st sd bk hp sk tr cells) (h : (c.1 = 3 ∧ f = 0) ∨ (c.1 = 2 ∧ 0 ≤ c.2 ∧ ∃ t, cells[c.2.toNat]? = some (t, f))) : WC C (lv 2).P 293 [.ref st, cv c] (fun x σ' => x = .int f ∧ σ' = σ) σ := by
  refine S.x3 fun s1 s2 s3 s6 n1 n2 => ?_
  refine WC_def0K (fd := fd293) (body := bd293) (n := 1) (names := ["self", "cell"]) hK (at293 _) (cd293 _) rfl rfl rfl rfl (BindF_2 fun a b => rfl) (by kernel_rfl!) fun L hL Qp hQp => ?_
  refine S_cons ?_
  rcases h with ⟨h1, rfl⟩ | ⟨h1, h2, t, h3⟩
  · repeat' w_up
  · repeat' w_up
theorem whole_size_ok {g : Gr} {k : Nat} {z : Nat → Nat} {sz : Addr} {sf : Int → Option V} {n : Nat} (S : Sto σ st sd bk hp sk tr cells) (B : Boo σ bk bd tx an fu fn fs) (G : GrOk g cells fs) (hk : k < g.T) (hz : σ sz = some (.dictI sf n)) (hs : ∀ j, .node j ∈ g.ch k → sf (g.nd j).2 = some (.int (z j))) :
    WC C (lv 3).P 371 [.ref st, cv (g.nd k), .ref sz] (fun x σ' => x = .int ((1 + ((g.ch k).map (szT z)).sum : Nat) : Int) ∧ σ' = σ) σ := by
  have S' := S
  have B' := B
  refine S.x3 fun s1 s2 s3 s6 n1 n2 => ?_
  refine xE1A1 (G.args k hk) fun as ha1 ha2 => ?_
  have hal := ha2.length
  have hw3 := G.w3 k hk
  refine WC_def0K (fd := fd371) (body := bd371) (n := 2) (names := ["self", "cell", "sizes"]) hK (at371 _) (cd371 _) rfl rfl rfl rfl (BindF_3 fun a b c => rfl) (by kernel_rfl!) fun L hL Qp hQp => ?_
  refine S_cons ?_
  repeat' w_up
  refine (base_ok hK S').useV (by decide) ?_
  repeat' w_up
  refine S_For (.inl (by o_inst)) (I_range1 (by w_side) PyProof.Rows.boot_range (by decide) (by o_inst) ?_)
  repeat' w_up
  refine (width_ok hK S' B' (G.wid k hk)).useV (by decide) ?_
  repeat' w_up
  refine ⟨_, rfl, by (first | lia | omega), by (first | lia | omega), fun i l' s' => s' = σ ∧ l' "self" = some (.ref st) ∧ l' "sizes" = some (.ref sz) ∧ l' "place" = some (.int (bas (g.nd k))) ∧ l' "size" = some (.int ((1 + (((g.ch k).take i).map (szT z)).sum : Nat) : Int)), ⟨rfl, rfl, rfl, rfl, rfl⟩, fun _ _ _ _ => trivial, ?_, ?_⟩
  · intro J jJ i y l' s' hy hI_
    refine xE0A4 hI_ fun e0 l1 l2 l3 l4 => ?_
    try clear hI_
    subst e0
    refine xE0A1 (steps_01 _ hy) fun hi hr1_ => ?_
    obtain rfl := hr1_
    have hi' : i < (g.ch k).length := by simpa using hi
    obtain ⟨t, ht⟩ : ∃ t, (g.ch k)[i]? = some t := ⟨_, List.getElem?_eq_getElem hi'⟩
    refine xE1A2 (ha2.get ht) fun a ea hr2_ hlt => ?_
    refine xE1A0 hr2_ fun m hm => ?_
    try clear hr2_
    have g4 := ha1.1
    have g5 := ha1.2 i (by (first | lia | omega))
    rw [ea] at g5
    have et : ((g.ch k).take (i + 1)).map (szT z) = ((g.ch k).take i).map (szT z) ++ [szT z t] := by
      rw [List.take_add_one, ht]; simp
    repeat' w_up
    refine (deref_ok hK s1 s2 s3 hm (by first | exact lt_big (by assumption) (by rfl) | (first | lia | omega))).useV (by decide) ?_
    repeat' w_up
    by_cases hnode : ∃ j, t = .node j
    · refine xE1A0 hnode fun j hr3_ => ?_
      try clear hnode
      obtain rfl := hr3_
      have hj := hlt j rfl
      have hcj := G.comp j hj
      have ec : g.cell (.node j) = g.nd j := rfl
      rw [ec]
      refine (is_comp_V hK S' (b := true) ⟨fun _ => rfl, fun _ => hcj⟩).useV (by decide) ?_
      repeat' w_up
      refine O_sub_dictI hz (hs j (List.mem_of_getElem? ht)) ?_
      repeat' w_up
      refine jJ ⟨rfl, l1, l2, l3, ?_⟩
      rw [setL_same, et]
      simp only [List.sum_append, List.sum_cons, List.sum_nil, szT]
      congr 2 <;> (first | lia | omega)
    · have hnc : ¬ ((g.cell t).1 = 2 ∨ (g.cell t).1 = 3) := by cases t <;> first | (exact absurd ⟨_, rfl⟩ hnode) | simp [Gr.cell]
      have hs1 : szT z t = 1 := by cases t <;> first | (exact absurd ⟨_, rfl⟩ hnode) | rfl
      refine (is_comp_V hK S' (b := false) ⟨fun h => absurd h hnc, fun h => nomatch h⟩).useV (by decide) ?_
      repeat' w_up
      refine jJ ⟨rfl, l1, l2, l3, ?_⟩
      rw [setL_same, et, hs1]
      simp only [List.sum_append, List.sum_cons, List.sum_nil]
      congr 2 <;> (first | lia | omega)
  · intro l' s' hI_
    refine xE0A4 hI_ fun e0 l1 l2 l3 l4 => ?_
    try clear hI_
    subst e0
    rw [steps_length, Int.toNat_natCast, List.take_of_length_le (by (first | lia | omega))] at l4
    repeat' w_up
end

theorem WC.useF {C : Cx} {k m : Nat} {l : List Env} {f : Addr} {args : List V} {P P' : V → Sg → Prop} {σ : Sg} (h : WC C (lv k).P f args P σ) (hm : k ≤ m) (hp : ∀ x s, P x s → P' x s) : WC C (lvF m l).P f args P' σ :=
  fun A s Q E vals r a rv q => h A s Q E vals (lv_mono r.1 hm) a rv fun v x s' σ' e1 e2 e3 e4 => q v x s' σ' e1 e2 e3 (hp _ _ e4)
theorem WC.useFV {C : Cx} {k m : Nat} {l : List Env} {f : Addr} {args : List V} {v : V} {τ : Sg} {P : V → Sg → Prop} {σ : Sg} (h : WC C (lv k).P f args (fun x s => x = v ∧ s = τ) σ) (hm : k ≤ m) (hp : P v τ) : WC C (lvF m l).P f args P σ :=
  h.useF hm fun x s e => e.1.symm ▸ e.2.symm ▸ hp
theorem CallT.less {C : Cx} {R : Rm} {env : Env} {loc : Loc} {σ : Sg} {T : String} {xs : List V} {P : V → Sg → Prop} (h : CallT C R env loc T xs (fun x σ' => ∃ σ'', Sub σ'' σ' ∧ P x σ'') σ) : CallT C R env loc T xs P σ := by
  intro vals A s Q E r a f hv k
  refine h vals A s Q E r a f hv fun v x s' σ' e1 e2 e3 e4 => ?_
  refine xE1A1 e4 fun σ'' hs hp => ?_
  try clear e4
  exact k v x s' σ'' e1 (e2.forget hs) (e3.forget hs) hp
/-- the state of take_term's run -/
noncomputable def stT (σ : Sg) (kn sz re wo : Addr) (kf : Int → Option V) (n1 : Nat) (sf : Int → Option V) (n2 : Nat) (R Wk : List V) : Sg := upd (upd (upd (upd σ kn (.dictI kf n1)) sz (.dictI sf n2)) re (.list R)) wo (.list Wk)
structure Ap4 (σ : Sg) (kn sz re wo : Addr) : Prop where
  k : σ kn = none
  s : σ sz = none
  r : σ re = none
  w : σ wo = none
  d1 : kn ≠ sz
  d2 : kn ≠ re
  d3 : kn ≠ wo
  d4 : sz ≠ re
  d5 : sz ≠ wo
  d6 : re ≠ wo
section
variable {σ : Sg} {kn sz re wo : Addr} (A : Ap4 σ kn sz re wo) {kf kf' sf sf' : Int → Option V} {n1 n1' n2 n2' : Nat} {R R' Wk Wk' : List V}
include A
theorem stT_old {b : Addr} {o : AO} (h : σ b = some o) : stT σ kn sz re wo kf n1 sf n2 R Wk b = some o :=
  upd_look (ne_fresh A.w h) (upd_look (ne_fresh A.r h) (upd_look (ne_fresh A.s h) (upd_look (ne_fresh A.k h) h)))
theorem stT_sub : Sub σ (stT σ kn sz re wo kf n1 sf n2 R Wk) := fun _ _ h => stT_old A h
theorem stT_k : stT σ kn sz re wo kf n1 sf n2 R Wk kn = some (.dictI kf n1) := upd_look A.d3 (upd_look A.d2 (upd_look A.d1 (upd_same _ _ _)))
theorem stT_s : stT σ kn sz re wo kf n1 sf n2 R Wk sz = some (.dictI sf n2) := upd_look A.d5 (upd_look A.d4 (upd_same _ _ _))
theorem stT_r : stT σ kn sz re wo kf n1 sf n2 R Wk re = some (.list R) := upd_look A.d6 (upd_same _ _ _)
theorem stT_w : stT σ kn sz re wo kf n1 sf n2 R Wk wo = some (.list Wk) := upd_same _ _ _
theorem stT_setk : upd (stT σ kn sz re wo kf n1 sf n2 R Wk) kn (.dictI kf' n1') = stT σ kn sz re wo kf' n1' sf n2 R Wk := by
  unfold stT
  rw [upd_comm _ (Ne.symm A.d3), upd_comm _ (Ne.symm A.d2), upd_comm _ (Ne.symm A.d1), upd_upd]
theorem stT_sets : upd (stT σ kn sz re wo kf n1 sf n2 R Wk) sz (.dictI sf' n2') = stT σ kn sz re wo kf n1 sf' n2' R Wk := by
  unfold stT
  rw [upd_comm _ (Ne.symm A.d5), upd_comm _ (Ne.symm A.d4), upd_upd]
theorem stT_setr : upd (stT σ kn sz re wo kf n1 sf n2 R Wk) re (.list R') = stT σ kn sz re wo kf n1 sf n2 R' Wk := by
  unfold stT
  rw [upd_comm _ (Ne.symm A.d6), upd_upd]
theorem stT_setw : upd (stT σ kn sz re wo kf n1 sf n2 R Wk) wo (.list Wk') = stT σ kn sz re wo kf n1 sf n2 R Wk' := by
  unfold stT
  rw [upd_upd]
end
inductive RepT (g : Gr) (cells : List Cell) : V → Wk → Prop
  | ent {a t} : Lead g cells a t → RepT g cells (.tup [.int 0, cv a]) (.ent t)
  | ext {k} : k < g.T → RepT g cells (.tup [.int 1, cv (g.nd k)]) (.ext k)
theorem RepT.ents {g : Gr} {cells : List Cell} {as : List Cell} {ts : List Tgt} (h : All2 (Lead g cells) as ts) : All2 (RepT g cells) (as.map fun a => V.tup [.int 0, cv a]) (ts.map .ent) := by
  induction h with
  | nil => exact .nil
  | cons a _ ih => exact .cons (.ent a) ih
noncomputable def knV (tv : Tgt → V) (s : Int) (k : Nat) : Option V := if s = 0 then none else if s = 1 then some .none else some (tv (.node k))
/-- what the loop keeps -/
structure TI (g : Gr) (cells : List Cell) (tv : Tgt → V) (t₀ : Tgt) (n : Nat) (s : Int → Int) (kf sf : Int → Option V) (n1 n2 : Nat) (R items : List V) (W : List Wk) (path : List Nat) : Prop where
  ar : All2 (RepT g cells) items W
  di : DI g t₀ s W path
  col : ∀ i, s i = 0 ∨ s i = 1 ∨ s i = 2
  kn : ∀ k, k < g.T → kf (g.nd k).2 = knV tv (s (g.nd k).2) k
  sz : ∀ k, k < g.T → s (g.nd k).2 = 2 → ∃ z : Nat, sf (g.nd k).2 = some (.int (z : Int)) ∧ z ≤ Bd (blk g s)
  ri : RI g tv t₀ W R
  cnt : n = 5 * white g s + W.length
  c1 : n1 + n ≤ 100
  c2 : n2 + n ≤ 100
  c3 : R.length + n ≤ 100
section
variable {C : Cx} (hK : C.K = KK C.w.params) {σ : Sg} {st sd bk hp sk tr bd fu fn tx an : Addr} {cells fs : List Cell} {ts : List Str}
include hK
theorem take_term_ok {g : Gr} {r0 m : Nat} {c0 : Cell} {tb : Addr} {tf : Int → Option V} {tn : Nat} {outer : List Env} {tv : Tgt → V} {fk : Nat → Int} {ka km kq : Nat}
    (S : Sto σ st sd bk hp sk tr cells) (B : Bks σ bk bd tx an fu fn ts fs) (G : GrOk g cells fs) (hr0 : r0 < g.T) (hx : Der cells m c0 (g.nd r0)) (hT : ∀ k, k < g.T → ∀ j, .node j ∈ g.ch k → j < g.T)
    (hfk : ∀ k, k < g.T → ((g.nd k).1 = 3 ∧ fk k = 0) ∨ ((g.nd k).1 = 2 ∧ 0 ≤ (g.nd k).2 ∧ ∃ t, cells[(g.nd k).2.toNat]? = some (t, fk k)))
    (ht : σ tb = some (.dictI tf tn)) (tvN : tv .nil = .tup [.str "a", .int 0]) (tvI : tv .num = .tup [.str "i", .int 7]) (tvV : ∀ k, k < g.T → ∀ a, .var a ∈ g.ch k → ∃ y, tf a = some y ∧ tv (.var a) = .tup [.str "v", y])
    (tvC : ∀ k, k < g.T → Acy g k → tv (.node k) = .tup [.str "s", .int (fk k), .tup ((g.ch k).map tv)])
    (ho : OutS outer σ) (q0 : posOf ts "memory" = some km) (q1 : posOf ts "resource_error" = some ka) (q2 : posOf fs ((ka : Int), 1) = some kq) :
    WX C (lvF 5 outer).P outer 378 [.ref st, cv c0, .ref tb] (fun x σ' => Acy g r0 ∧ x = tv (.node r0) ∧ σ' = σ)
      (fun a d Cl σ0 => ¬ Acy g r0 ∧ Cl = 51 ∧ Sub σ σ0 ∧ σ a = none ∧ σ d = none ∧ σ0 d = some (.ns (setF (fun _ => none) "ball" (ballV kq km)) 1)) σ := by
  have S' := S
  have B' := B
  have Bo : Boo σ bk bd tx an fu fn fs := ⟨B.b1, B.b2, B.b5, Nat.lt_of_lt_of_le B.l2 (by decide)⟩
  obtain ⟨s1, s2, s3, s4, s5, s6, n1, n2, n3, n4⟩ := S
  obtain ⟨b1, b2, b3, b4, b5, b6, l1, l2⟩ := B
  refine WX_def (fd := fd378) (body := bd378) (n := 4) (names := ["self", "cell", "table"]) (by rw [hK]; exact at378 _) (by rw [hK]; exact cd378 _) rfl rfl rfl rfl (BindF_3 fun a b c => rfl) (by decide +kernel) (by decide +kernel) fun L hL Qp hQp X hX => ?_
  refine S_cons ?_
  repeat' w_up
  refine W_Dict (.dictI (fun _ => none) 0) ⟨rfl, rfl⟩ fun kn hkn => ?_
  repeat' w_up
  refine W_Dict (.dictI (fun _ => none) 0) ⟨rfl, rfl⟩ fun sz hsz => ?_
  repeat' w_up
  rename_i re hre
  refine Classical.byContradiction fun hG => ?_
  refine xE0A1 (upd_none hsz) fun z1 z2 => ?_
  refine xE0A1 (upd_none hre) fun z3 z => ?_
  refine xE0A1 (upd_none z) fun z4 z5 => ?_
  refine hG ?_
  clear hG
  have N3 : ∀ {b o}, σ b = some o → (upd (upd (upd σ kn (.dictI (fun _ => none) 0)) sz (.dictI (fun _ => none) 0)) re (.list [])) b = some o := fun e => upd_look (ne_fresh z5 e) (upd_look (ne_fresh z2 e) (upd_look (ne_fresh hkn e) e))
  refine (globalise_ok hK (k := m) (d := g.nd r0) ⟨N3 s1, N3 s2, N3 s3, N3 s4, N3 s5, s6, n1, n2, n3, n4⟩ hx (by have := G.comp r0 hr0; (first | lia | omega))).useFV (by decide) ?_
  repeat' w_up
  rename_i wo hwo
  refine Classical.byContradiction fun hG => ?_
  refine xE0A1 (upd_none hwo) fun z6 y => ?_
  refine xE0A1 (upd_none y) fun z7 y => ?_
  refine xE0A1 (upd_none y) fun z8 z9 => ?_
  refine hG ?_
  clear hG
  have A4 : Ap4 σ kn sz re wo := ⟨hkn, z2, z5, z9, Ne.symm z1, Ne.symm z4, Ne.symm z8, Ne.symm z3, Ne.symm z7, Ne.symm z6⟩
  clear N3 hsz hre z y hwo z1 z2 z3 z4 z5 z6 z7 z8 z9 hkn
  have sT := G.small
  have c0 := G.comp r0 hr0
  refine S_While (fun n loc' σ' => loc' "self" = some (.ref st) ∧ loc' "table" = some (.ref tb) ∧ loc' "known" = some (.ref kn) ∧ loc' "sizes" = some (.ref sz) ∧ loc' "results" = some (.ref re) ∧ loc' "work" = some (.ref wo) ∧
    ∃ s kf sf n1 n2 R items W path, TI g cells tv (.node r0) n s kf sf n1 n2 R items W path ∧ σ' = stT σ kn sz re wo kf n1 sf n2 R items.reverse) (5 * white g (fun _ => 0) + 1)
    ⟨rfl, rfl, rfl, rfl, rfl, rfl, fun _ => 0, _, _, 0, 0, [], [.tup [.int 0, cv (g.nd r0)]], [.ent (.node r0)], [], ⟨.cons (.ent ⟨⟨0, .stop (by (first | lia | omega)) (by (first | lia | omega))⟩, fun k e => by cases e; exact hr0⟩) .nil, ⟨.ent0 .nil, List.nodup_nil, fun k _ => by simp, fun _ h => (nomatch h), fun k _ h => by simp at h, trivial, .inr (.inl (.head _))⟩, fun _ => .inl rfl, fun _ _ => rfl, fun _ _ h => by simp at h, rfl, rfl, ?_, ?_, ?_⟩, rfl⟩ fun J jJ n loc' σ' hI => ?_
  · have : white g (fun _ => 0) ≤ g.T := by unfold white; exact Nat.le_trans (List.length_filter_le _ _) (by simp)
    (first | lia | omega)
  · have : white g (fun _ => 0) ≤ g.T := by unfold white; exact Nat.le_trans (List.length_filter_le _ _) (by simp)
    (first | lia | omega)
  · have : white g (fun _ => 0) ≤ g.T := by unfold white; exact Nat.le_trans (List.length_filter_le _ _) (by simp)
    simp; (first | lia | omega)
  refine Classical.byContradiction fun hG => ?_
  refine xE0A6 hI fun l1' l2' l3 l4 l5 l6 hz1_ => ?_
  try clear hI
  refine xE6A0 hz1_ fun s kf sf n1' n2' R hz9_ => ?_
  refine xE3A1 hz9_ fun items W path I hr9_ => ?_
  clear hz9_ hz1_
  subst hr9_
  refine hG ?_
  clear hG
  have S3 : ∀ {kf sf : Int → Option V} {a b : Nat} {R Wk : List V}, Sto (stT σ kn sz re wo kf a sf b R Wk) st sd bk hp sk tr cells := ⟨stT_old A4 s1, stT_old A4 s2, stT_old A4 s3, stT_old A4 s4, stT_old A4 s5, s6, n1, n2, n3, n4⟩
  have B3 : ∀ {kf sf : Int → Option V} {a b : Nat} {R Wk : List V}, Bks (stT σ kn sz re wo kf a sf b R Wk) bk bd tx an fu fn ts fs := ⟨stT_old A4 b1, stT_old A4 b2, stT_old A4 b3, stT_old A4 b4, stT_old A4 b5, stT_old A4 b6, l1, l2⟩
  have Bo3 : ∀ {kf sf : Int → Option V} {a b : Nat} {R Wk : List V}, Boo (stT σ kn sz re wo kf a sf b R Wk) bk bd tx an fu fn fs := ⟨stT_old A4 Bo.b1, stT_old A4 Bo.b2, stT_old A4 Bo.b3, Bo.len⟩
  have hlen := I.ar.length
  have hn := I.cnt
  have hA := I.ar
  cases hA with
  | nil =>
    have hac : Acy g r0 := I.di.fin fun k e => by cases e; exact hr0
    have hR : R = [tv (.node r0)] := I.ri
    subst hR
    have w1 := stT_w A4 (kf := kf) (n1 := n1') (sf := sf) (n2 := n2') (R := [tv (.node r0)]) (Wk := ([] : List V).reverse)
    repeat' w_up
    refine O_sub_list (stT_r A4) (by decide) (by decide) rfl ?_
    repeat' w_up
    exact ⟨σ, stT_sub A4, hac, rfl, rfl⟩
  | @cons v x items W hv hA =>
    have eq : (v :: items).reverse = items.reverse ++ [v] := by simp
    rw [eq]
    have hil : items.length ≤ 100 := by have := hA.length; have := I.c1; simp only [List.length_cons] at hn; (first | lia | omega)
    have w1 := stT_w A4 (kf := kf) (n1 := n1') (sf := sf) (n2 := n2') (R := R) (Wk := items.reverse ++ [v])
    have sS := (S3 (kf := kf) (a := n1') (sf := sf) (b := n2') (R := R) (Wk := items.reverse))
    refine sS.x3 fun s1' s2' s3' _ _ _ => ?_
    have c1 := I.c1
    have c2 := I.c2
    have c3 := I.c3
    cases hv with
    | @ext j hj =>
      have hcj := G.comp j hj
      refine Classical.byContradiction fun hG => ?_
      refine xE0A2 (I.di.leave hT G.inj) fun _ hs1 hz2_ => ?_
      refine xE1A0 hz2_ fun path' hD' => ?_
      clear hz2_
      refine hG ?_
      clear hG
      have hw3 := G.w3 j hj
      refine xE1A1 I.ri fun pre hR hRI => ?_
      have hRl : R.length = pre.length + (g.ch j).length := by rw [hR]; simp
      have hacy : Acy g j := hD'.black j hj (by simp)
      have hkids : ∀ i, .node i ∈ g.ch j → ∃ z : Nat, sf (g.nd i).2 = some (.int (z : Int)) ∧ z ≤ Bd (blk g s) := fun i hi => I.sz i (hT j hj i hi) (I.di.kids hi)
      classical
      have hz : ∃ z : Nat → Nat, ∀ i, .node i ∈ g.ch j → sf (g.nd i).2 = some (.int (z i : Int)) ∧ z i ≤ Bd (blk g s) := by
        refine ⟨fun i => if h : .node i ∈ g.ch j then (hkids i h).choose else 0, fun i hi => ?_⟩
        simp only [dif_pos hi]
        exact (hkids i hi).choose_spec
      refine xE1A0 hz fun z hz => ?_
      have hsum := sum_le (z := z) (Bd_pos (blk g s)) fun i hi => (hz i hi).2
      have hbl := blk_leave (g := g) hj hs1
      have hb5 := blk_le g (fun i => if i = (g.nd j).2 then 2 else s i)
      have hBd := Bd_mono (Nat.succ_le_of_lt hbl)
      have hB5 := Bd_5 (Nat.le_trans hb5 sT)
      have hmul : (g.ch j).length * Bd (blk g s) ≤ 3 * Bd (blk g s) := Nat.mul_le_mul_right _ hw3.2
      have hsz : 1 + ((g.ch j).map (szT z)).sum ≤ Bd (blk g fun i => if i = (g.nd j).2 then 2 else s i) := by
        simp only [Bd] at hBd
        (first | lia | omega)
      have hwl := white_leave g s (g.nd j).2
      repeat' w_up
      rw [stT_setw A4]
      repeat' w_up
      refine (functor_of_ok hK S3 (hfk j hj)).useFV (by decide) ?_
      have r1 := stT_r A4 (kf := kf) (n1 := n1') (sf := sf) (n2 := n2') (R := R) (Wk := items.reverse)
      repeat' w_up
      refine (width_ok hK S3 Bo3 (G.wid j hj)).useFV (by decide) ?_
      repeat' w_up
      have hfirst : V.int ((R.length : Int) - ((g.ch j).length : Int)) = V.int (pre.length : Int) := by congr 1; (first | lia | omega)
      have hdrop : R.drop pre.length = (g.ch j).map tv := by rw [hR]; simp
      have htake : R.take pre.length = pre := by rw [hR]; simp
      have hmapl : ((g.ch j).map tv).length ≤ 100000 := by simp; (first | lia | omega)
      have htv := tvC j hj hacy
      refine ⟨re, R, pre.length, rfl, r1, by (first | lia | omega), hfirst, by (first | lia | omega), fun tmp htmp => ?_⟩
      repeat' w_up
      refine CallT.less (T_tuple (upd_same _ _ _) (by rw [hdrop]; exact hmapl) ⟨_, Sub.fresh (Sub.refl _) htmp, ?_⟩)
      rw [hdrop]
      repeat' w_up
      refine ⟨re, R, pre.length, rfl, r1, by (first | lia | omega), hfirst, by (first | lia | omega), ?_⟩
      rw [htake, stT_setr A4]
      repeat' w_up
      refine Set_dictI (stT_k A4) (by (first | lia | omega)) ?_
      rw [stT_setk A4]
      have sS := (S3 (kf := fun i => if i = (g.nd j).2 then some (V.tup [.str "s", .int (fk j), .tup ((g.ch j).map tv)]) else kf i) (a := n1' + 1) (sf := sf) (b := n2') (R := pre) (Wk := items.reverse))
      refine sS.x3 fun s1'' s2'' s3'' _ _ _ => ?_
      repeat' w_up
      refine (whole_size_ok hK (z := z) S3 Bo3 G hj (stT_s A4) fun i hi => (hz i hi).1).useFV (by decide) ?_
      repeat' w_up
      refine Set_dictI (stT_s A4) (by (first | lia | omega)) ?_
      rw [stT_sets A4]
      have sS := (S3 (kf := fun i => if i = (g.nd j).2 then some (V.tup [.str "s", .int (fk j), .tup ((g.ch j).map tv)]) else kf i) (a := n1' + 1) (sf := fun i => if i = (g.nd j).2 then some (V.int ((1 + ((g.ch j).map (szT z)).sum : Nat) : Int)) else sf i) (b := n2' + 1) (R := pre) (Wk := items.reverse))
      refine sS.x3 fun s1_ s2_ s3_ _ _ _ => ?_
      repeat' w_up
      refine O_sub_dictI (stT_s A4) (if_pos rfl) ?_
      repeat' w_up
      have r_ := stT_r A4 (kf := fun i => if i = (g.nd j).2 then some (V.tup [.str "s", .int (fk j), .tup ((g.ch j).map tv)]) else kf i) (n1 := n1' + 1) (sf := fun i => if i = (g.nd j).2 then some (V.int ((1 + ((g.ch j).map (szT z)).sum : Nat) : Int)) else sf i) (n2 := n2' + 1) (R := pre) (Wk := items.reverse)
      repeat' w_up
      rw [stT_setr A4]
      have eqs : ∀ i, i < g.T → i ≠ j → (g.nd i).2 ≠ (g.nd j).2 := fun i hi hne q => hne (G.inj i j hi hj q)
      refine ⟨_, ?_, jJ ⟨l1', l2', l3, l4, l5, l6, _, _, _, _, _, _, items, W, path', ⟨hA, hD', fun i => ?_, fun i hi => ?_, fun i hi hs => ?_, ?_, rfl, ?_, ?_, ?_⟩, rfl⟩⟩
      · rw [hn]; simp only [List.length_cons]; (first | lia | omega)
      · split
        · exact .inr (.inr rfl)
        · exact I.col i
      · by_cases q : i = j
        · subst q
          rw [if_pos rfl, if_pos rfl, ← htv]; rfl
        · have := eqs i hi q
          rw [if_neg this, if_neg this]; exact I.kn i hi
      · by_cases q : i = j
        · subst q
          exact ⟨_, if_pos rfl, hsz⟩
        · have := eqs i hi q
          rw [if_neg this] at hs
          refine xE1A1 (I.sz i hi hs) fun z0 h1 h2 => ?_
          exact ⟨z0, by rw [if_neg this]; exact h1, Nat.le_trans h2 (Bd_mono (Nat.le_of_lt hbl))⟩
      · rw [← htv]; exact hRI
      · simp only [List.length_cons] at hn; (first | lia | omega)
      · simp only [List.length_cons] at hn; (first | lia | omega)
      · simp only [List.length_cons, List.length_append, List.length_nil] at hn hRl ⊢; (first | lia | omega)
    | @ent a t ha =>
      refine Classical.byContradiction fun hG => ?_
      refine xE0A1 ha fun hr3_ hlt => ?_
      try clear ha
      refine xE1A0 hr3_ fun m2 hm2 => ?_
      try clear hr3_
      refine hG ?_
      clear hG
      repeat' w_up
      rw [stT_setw A4]
      repeat' w_up
      refine (deref_ok hK s1' s2' s3' hm2 (by first | exact lt_big (by assumption) (by rfl) | (first | lia | omega))).useFV (by decide) ?_
      have r1 := stT_r A4 (kf := kf) (n1 := n1') (sf := sf) (n2 := n2') (R := R) (Wk := items.reverse)
      have hri : RI g tv (.node r0) W (R ++ [tv t]) := I.ri
      cases t with
      | var a' =>
        obtain ⟨p, hp, hmem⟩ : ∃ p, p < g.T ∧ .var a' ∈ g.ch p := by
          have hsp := I.di.sp
          have hlt' := I.di.lt
          cases hsp with
          | ent h e => exact ⟨_, hlt' _ (.head _), e⟩
        refine xE1A1 (tvV p hp a' hmem) fun y hy hty => ?_
        rw [show g.cell (.var a') = (0, a') from rfl]
        have tb1 : stT σ kn sz re wo kf n1' sf n2' R items.reverse tb = some (.dictI tf tn) := stT_old A4 ht
        repeat' w_up
        refine O_notIn_dictI tb1 ⟨_, rfl, ?_⟩
        rw [hy]
        show @ite _ (false = true) _ _ _
        repeat' w_up
        refine O_sub_dictI tb1 hy ?_
        repeat' w_up
        rw [stT_setr A4]
        refine ⟨_, ?_, jJ ⟨l1', l2', l3, l4, l5, l6, s, kf, sf, n1', n2', _, items, W, path, ⟨hA, I.di.drop trivial, I.col, I.kn, I.sz, by rw [hty] at hri; exact hri, rfl, ?_, ?_, ?_⟩, rfl⟩⟩
        · rw [hn]; simp
        · simp only [List.length_cons] at hn; (first | lia | omega)
        · simp only [List.length_cons] at hn; (first | lia | omega)
        · simp only [List.length_cons, List.length_append, List.length_nil] at hn ⊢; (first | lia | omega)
      | nil =>
        rw [show g.cell .nil = (4, 0) from rfl]
        repeat' w_up
        rw [stT_setr A4]
        refine ⟨_, ?_, jJ ⟨l1', l2', l3, l4, l5, l6, s, kf, sf, n1', n2', _, items, W, path, ⟨hA, I.di.drop trivial, I.col, I.kn, I.sz, by rw [tvN] at hri; exact hri, rfl, ?_, ?_, ?_⟩, rfl⟩⟩
        · rw [hn]; simp
        · simp only [List.length_cons] at hn; (first | lia | omega)
        · simp only [List.length_cons] at hn; (first | lia | omega)
        · simp only [List.length_cons, List.length_append, List.length_nil] at hn ⊢; (first | lia | omega)
      | num =>
        rw [show g.cell .num = (5, 7) from rfl]
        repeat' w_up
        rw [stT_setr A4]
        refine ⟨_, ?_, jJ ⟨l1', l2', l3, l4, l5, l6, s, kf, sf, n1', n2', _, items, W, path, ⟨hA, I.di.drop trivial, I.col, I.kn, I.sz, by rw [tvI] at hri; exact hri, rfl, ?_, ?_, ?_⟩, rfl⟩⟩
        · rw [hn]; simp
        · simp only [List.length_cons] at hn; (first | lia | omega)
        · simp only [List.length_cons] at hn; (first | lia | omega)
        · simp only [List.length_cons, List.length_append, List.length_nil] at hn ⊢; (first | lia | omega)
      | node j =>
        have hj := hlt j rfl
        have hcj := G.comp j hj
        have ec : g.cell (.node j) = g.nd j := rfl
        have hknj := I.kn j hj
        rw [ec]
        repeat' w_up
        refine O_in_dictI (stT_k A4) ⟨_, rfl, ?_⟩
        rw [hknj]
        rcases I.col (g.nd j).2 with hs0 | hs1 | hs2
        · rw [hs0]
          show @ite _ (false = true) _ _ _
          refine xE1A1 (G.args j hj) fun as ha1 ha2 => ?_
          have hw3 := G.w3 j hj
          have hal := ha2.length
          have hwe := white_enter (g := g) hj hs0
          have eqs : ∀ i, i < g.T → i ≠ j → (g.nd i).2 ≠ (g.nd j).2 := fun i hi hne q => hne (G.inj i j hi hj q)
          repeat' w_up
          refine Set_dictI (stT_k A4) (by (first | lia | omega)) ?_
          rw [stT_setk A4]
          have w_ := stT_w A4 (kf := fun i => if i = (g.nd j).2 then some V.none else kf i) (n1 := n1' + 1) (sf := sf) (n2 := n2') (R := R) (Wk := items.reverse)
          repeat' w_up
          rw [stT_setw A4]
          have sS := (S3 (kf := fun i => if i = (g.nd j).2 then some V.none else kf i) (a := n1' + 1) (sf := sf) (b := n2') (R := R) (Wk := items.reverse ++ [V.tup [.int 1, cv (g.nd j)]]))
          refine sS.x3 fun s1_ s2_ s3_ _ _ _ => ?_
          repeat' w_up
          refine (base_ok hK S3).useFV (by decide) ?_
          repeat' w_up
          refine S_For (.inl (by o_inst)) (I_range3 (by w_side) PyProof.Rows.boot_range (by decide) (by o_inst) ?_)
          repeat' w_up
          refine (width_ok hK S3 Bo3 (G.wid j hj)).useFV (by decide) ?_
          repeat' w_up
          refine ⟨_, rfl, by (first | lia | omega), by (first | lia | omega), fun i l' s' => l' "self" = some (.ref st) ∧ l' "table" = some (.ref tb) ∧ l' "known" = some (.ref kn) ∧ l' "sizes" = some (.ref sz) ∧ l' "results" = some (.ref re) ∧ l' "work" = some (.ref wo) ∧ l' "place" = some (.int (bas (g.nd j))) ∧
            s' = stT σ kn sz re wo (fun i => if i = (g.nd j).2 then some V.none else kf i) (n1' + 1) sf n2' R ((items.reverse ++ [V.tup [.int 1, cv (g.nd j)]]) ++ (as.reverse.take i).map fun a => V.tup [.int 0, cv a]), ⟨l1', l2', l3, l4, l5, l6, rfl, by simp⟩, fun _ _ _ _ => trivial, ?_, ?_⟩
          · intro J jJ i y l' s' hy hI_
            refine xE0A7 hI_ fun f1 f2 f3 f4 f5 f6 f7 f8 => ?_
            try clear hI_
            rw [← hal] at hy
            have en : ((as.length : Int) - 1 + 1).toNat = as.length := by (first | lia | omega)
            rw [en] at hy
            refine Classical.byContradiction fun hG => ?_
            refine xE0A1 (steps_down _ hy) fun hi hr4_ => ?_
            obtain rfl := hr4_
            subst f8
            refine hG ?_
            clear hG
            have g1 := ha1.2 (as.length - 1 - i) (by (first | lia | omega))
            have g2 : (bas (g.nd j) + ((as.length : Int) - 1 - (i : Int))).toNat = (bas (g.nd j) + ((as.length - 1 - i : Nat) : Int)).toNat := by congr 1; (first | lia | omega)
            have g3 : cells[(bas (g.nd j) + ((as.length : Int) - 1 - (i : Int))).toNat]? = some (as[as.length - 1 - i]'(by (first | lia | omega))) := by rw [g2, g1]; exact List.getElem?_eq_getElem (by (first | lia | omega))
            have g4 := ha1.1
            have w_ := stT_w A4 (kf := fun i => if i = (g.nd j).2 then some V.none else kf i) (n1 := n1' + 1) (sf := sf) (n2 := n2') (R := R) (Wk := (items.reverse ++ [V.tup [.int 1, cv (g.nd j)]]) ++ (as.reverse.take i).map fun a => V.tup [.int 0, cv a])
            have sS := (S3 (kf := fun i => if i = (g.nd j).2 then some V.none else kf i) (a := n1' + 1) (sf := sf) (b := n2') (R := R) (Wk := (items.reverse ++ [V.tup [.int 1, cv (g.nd j)]]) ++ (as.reverse.take i).map fun a => V.tup [.int 0, cv a]))
            refine sS.x3 fun s1_ s2_ s3_ _ _ _ => ?_
            have hl0 : ((items.reverse ++ [V.tup [.int 1, cv (g.nd j)]]) ++ (as.reverse.take i).map fun a => V.tup [.int 0, cv a]).length ≤ 100000 := by simp; (first | lia | omega)
            repeat' w_up
            refine jJ ⟨f1, f2, f3, f4, f5, f6, f7, ?_⟩
            have et : as.reverse.take (i + 1) = as.reverse.take i ++ [as[as.length - 1 - i]'(by (first | lia | omega))] := by
              rw [List.take_add_one]
              congr 1
              rw [List.getElem?_reverse (by (first | lia | omega)), List.getElem?_eq_getElem (by (first | lia | omega))]
              rfl
            rw [stT_setw A4, et, List.map_append, ← List.append_assoc]
            rfl
          · intro l' s' hI_
            refine xE0A7 hI_ fun f1 f2 f3 f4 f5 f6 f7 f8 => ?_
            try clear hI_
            have en : ((as.length : Int) - 1 + 1).toNat = as.length := by (first | lia | omega)
            rw [steps_length, ← hal, en, List.take_of_length_le (by simp)] at f8
            have ef : (items.reverse ++ [V.tup [.int 1, cv (g.nd j)]]) ++ (as.reverse.map fun a => V.tup [.int 0, cv a]) = ((as.map fun a => V.tup [.int 0, cv a]) ++ V.tup [.int 1, cv (g.nd j)] :: items).reverse := by simp
            rw [ef] at f8
            subst f8
            repeat' w_up
            refine ⟨_, ?_, jJ ⟨f1, f2, f3, f4, f5, f6, fun i => if i = (g.nd j).2 then 1 else s i, _, sf, n1' + 1, n2', R, _, (g.ch j).map .ent ++ .ext j :: W, j :: path, ⟨(RepT.ents ha2).append (.cons (.ext hj) hA), I.di.enter hj hs0 G.inj (fun t => Iff.rfl), fun i => ?_, fun i hi => ?_, fun i hi hs => ?_, RI.enter I.ri, rfl, ?_, ?_, ?_⟩, rfl⟩⟩
            · rw [hn]; simp only [List.length_cons, List.length_append, List.length_map]; (first | lia | omega)
            · split
              · exact .inr (.inl rfl)
              · exact I.col i
            · by_cases q : i = j
              · subst q
                rw [if_pos rfl, if_pos rfl]; rfl
              · have := eqs i hi q
                rw [if_neg this, if_neg this]; exact I.kn i hi
            · by_cases q : i = j
              · subst q
                rw [if_pos rfl] at hs; cases hs
              · have := eqs i hi q
                rw [if_neg this] at hs
                refine xE1A1 (I.sz i hi hs) fun z0 h1 h2 => ?_
                exact ⟨z0, h1, Nat.le_trans h2 (Bd_mono (blk_enter hs0))⟩
            · simp only [List.length_cons, List.length_append, List.length_map] at hn ⊢; (first | lia | omega)
            · simp only [List.length_cons, List.length_append, List.length_map] at hn ⊢; (first | lia | omega)
            · simp only [List.length_cons, List.length_append, List.length_map] at hn ⊢; (first | lia | omega)
        · rw [hs1] at hknj ⊢
          show @ite _ (true = true) _ _ _
          repeat' w_up
          refine O_sub_dictI (stT_k A4) hknj ?_
          repeat' w_up
          refine Op_isNone rfl ⟨_, rfl, ?_⟩
          repeat' w_up
          refine hX _ _ _ _ _ 48 ?_
          repeat' w_up
          refine (resource_error_ok hK B3 q0 q1 q2).useF (by decide) fun x s' hI_ => ?_
          refine Classical.byContradiction fun hG => ?_
          refine xE3A4 hI_ fun e t d e1 h1 h2 h3 e2 => ?_
          try clear hI_
          subst e1 e2
          refine hG ?_
          clear hG
          have sub1 : Sub (stT σ kn sz re wo kf n1' sf n2' R items.reverse) (excS (stT σ kn sz re wo kf n1' sf n2' R items.reverse) e t d (ballV kq km)) := ((Sub.refl _).fresh h1).fresh (by rw [upd_ne _ _ h3]; exact h2)
          exact ⟨e, 51, t, d, rfl, h1, upd_look (Ne.symm h3) (upd_same _ _ _), n_51 hK, fun en he => (ho en he).elim fun k q => q.elim fun L q => q.elim fun o q => ⟨k, L, o, q.1, sub1 _ _ (stT_old A4 q.2)⟩, I.di.circle hj hs1, rfl, (stT_sub A4).trans sub1, (stT_sub A4).none h1, (stT_sub A4).none h2, upd_same _ _ _⟩
        · have hbl := I.di.black j hj hs2
          have htv := tvC j hj hbl
          rw [hs2] at hknj ⊢
          have hk2 : kf (g.nd j).2 = some (V.tup [.str "s", .int (fk j), .tup ((g.ch j).map tv)]) := by rw [hknj, ← htv]; rfl
          show @ite _ (true = true) _ _ _
          repeat' w_up
          refine O_sub_dictI (stT_k A4) hk2 ?_
          repeat' w_up
          refine Op_isNone rfl ⟨_, rfl, ?_⟩
          repeat' w_up
          rw [stT_setr A4]
          refine ⟨_, ?_, jJ ⟨l1', l2', l3, l4, l5, l6, s, kf, sf, n1', n2', _, items, W, path, ⟨hA, I.di.drop hs2, I.col, I.kn, I.sz, by rw [htv] at hri; exact hri, rfl, ?_, ?_, ?_⟩, rfl⟩⟩
          · rw [hn]; simp
          · simp only [List.length_cons] at hn; (first | lia | omega)
          · simp only [List.length_cons] at hn; (first | lia | omega)
          · simp only [List.length_cons, List.length_append, List.length_nil] at hn ⊢; (first | lia | omega)
end
section
theorem locF_of {scope : Scope} {env : Env} {loc : Loc} {z : Str} {kd : NameKind} {v : V} (h1 : (relabel scope env).names.lookup z = some kd) (h2 : kd ≠ .local) (h3 : loc z = some v) : locF scope env loc z = some v := by
  unfold locF
  rw [h1, if_neg (fun q => h2 (Option.some.inj q))]; exact h3
theorem locF_cell {scope : Scope} {env : Env} {loc : Loc} {z : Str} {v : V} (h1 : (relabel scope env).names.lookup z = some .cell) (h3 : loc z = some v) : locF scope env loc z = some v := locF_of h1 (by decide) h3
set_option hygiene false
set_option compiler.extract_closed false
local macro_rules | `(tactic| o_new) => `(tactic| first
  | with_reducible assumption | (with_reducible exact setL_same _ _ _) | (with_reducible refine setL_ne (by kernel_rfl!) ?_; o_new) | (refine locF_cell (by with_unfolding_all rfl) ?_; o_new) | (with_reducible exact locOf_hit (by kernel_rfl!)) | (with_reducible refine locOf_skip ?_; o_new) | rfl)
set_option hygiene true

theorem WG.less {C : Cx} {R : Rm} {env : Env} {loc : Loc} {σ : Sg} {α β : Type} {rel : Heap → α → β → Prop} {t : Sem α} {P : β → Sg → Prop} (h : WG C R env loc rel t (fun x σ' => ∃ σ'', Sub σ'' σ' ∧ P x σ'') σ) : WG C R env loc rel t P σ := by
  intro A s Q E r a f k
  refine h A s Q E r a f fun v x s' σ' e1 e2 e3 e4 => ?_
  refine xE1A1 e4 fun σ'' hs hp => ?_
  try clear e4
  exact k v x s' σ'' e1 (e2.forget hs) (e3.forget hs) hp
theorem ints_flat (l : List Int) : V.flats (l.map .int) = true := by
  induction l with
  | nil => rfl
  | cons a l ih => simp [V.flats, V.flat, ih]
theorem ints_can (l : List Int) : PyData.canLayAll0 (V.pys (l.map .int)) = true ∧ PyData.depthAll (V.pys (l.map .int)) ≤ 0 := by
  induction l with
  | nil => exact ⟨rfl, Nat.zero_le _⟩
  | cons a l ih =>
    have h1 : PyData.canLay0 (V.int a).py = true := by simp [V.py, PyData.canLay0]
    have h2 : PyData.depth (V.int a).py = 0 := by simp [V.py, PyData.depth]
    simp only [List.map_cons, V.pys, PyData.canLayAll0, PyData.depthAll, h1, h2, ih.1, Bool.and_self, true_and]
    exact Nat.max_le.mpr ⟨Nat.le_refl _, ih.2⟩
theorem ints_shaped (l : List Int) : PySem.SeqAt.shaped (.list (V.pys (l.map .int))) = true := by
  refine xE0A1 (ints_can l) fun h1 h2 => ?_
  unfold PySem.SeqAt.shaped
  rw [Bool.and_eq_true]
  exact ⟨by simp only [PyData.canLay0, h1], decide_eq_true (by simp only [PyData.depth]; (first | lia | omega))⟩
theorem ints_eq : ∀ (l m : List Int), PyData.eqvAll (V.pys (l.map .int)) (V.pys (m.map .int)) = decide (l = m)
  | [], [] => by simp [V.pys, PyData.eqvAll]
  | [], _ :: _ => by simp [V.pys, PyData.eqvAll]
  | _ :: _, [] => by simp [V.pys, PyData.eqvAll]
  | a :: l, b :: m => by
    have h : PyData.eqv (V.int a).py (V.int b).py = decide (a = b) := by simp [V.py, PyData.eqv, beq_eq_decide']
    simp only [List.map_cons, V.pys, PyData.eqvAll, h, ints_eq l m]
    rw [Bool.eq_iff_iff]; simp
theorem Op_eqInts {C : Cx} {R : Rm} {env : Env} {loc : Loc} {σ : Sg} {a b : Addr} {l m : List Int} {P : V → Sg → Prop} (ea : σ a = some (.list (l.map .int))) (eb : σ b = some (.list (m.map .int))) (h : P (.bool (decide (l = m))) σ) : OpV C R env loc (compareOp .Eq) (.ref a) (.ref b) P σ :=
  Op_eqL ea eb (ints_flat _) (ints_flat _) (ints_shaped _) (ints_shaped _) (by rw [ints_eq]; exact h)
theorem Op_neInts {C : Cx} {R : Rm} {env : Env} {loc : Loc} {σ : Sg} {a b : Addr} {l m : List Int} {P : V → Sg → Prop} (ea : σ a = some (.list (l.map .int))) (eb : σ b = some (.list (m.map .int))) (h : P (.bool (!decide (l = m))) σ) : OpV C R env loc (compareOp .NotEq) (.ref a) (.ref b) P σ :=
  Op_neL ea eb (ints_flat _) (ints_flat _) (ints_shaped _) (ints_shaped _) (by rw [ints_eq]; exact h)
section
variable {C : Cx} (hK : C.K = KK C.w.params) {σ : Sg}
include hK
theorem part_ok {e : Int} {tr : Addr} {tf : Int → Option V} {n : Nat} (h : σ tr = some (.dictI tf n)) (he : e ≥ 0 → (tf e).isSome) : WC C (lv 1).P 672 [.int e, .ref tr] (fun x σ' => x = partV tf e ∧ σ' = σ) σ := by
  refine WC_def0K (fd := fd672) (body := bd672) (n := 0) (names := ["edge", "trees"]) hK (at672 _) (cd672 _) rfl rfl rfl rfl (BindF_2 fun a b => rfl) (by kernel_rfl!) fun L hL Qp hQp => ?_
  refine S_cons ?_
  repeat' w_up
  · rename_i h0
    refine xE1A0 (Option.isSome_iff_exists.mp (he h0)) fun v hv => ?_
    refine O_sub_dictI h hv ?_
    repeat' w_up
    refine ⟨σ, fun _ _ h => h, ?_, rfl⟩
    unfold partV; rw [if_pos h0, hv]; rfl
  all_goals (refine ⟨σ, fun _ _ h => h, ?_, rfl⟩; unfold partV; first | (rw [if_neg (by (first | lia | omega)), if_pos (by (first | lia | omega))]; rfl) | (rw [if_neg (by (first | lia | omega)), if_neg (by (first | lia | omega)), if_pos (by (first | lia | omega))]; rfl) | (rw [if_neg (by (first | lia | omega)), if_neg (by (first | lia | omega)), if_neg (by (first | lia | omega))]; rfl))
theorem unfolded_ok {fo rw_ : Addr} {rowA : Nat → Addr} {r : Rw} (ok : r.Ok) (hT : r.T ≤ 5) (hT1 : 1 ≤ r.T) (hfo : σ fo = some (.list ((List.range r.T).map fun k => .int (r.fk k)))) (hrw : σ rw_ = some (.list ((List.range r.T).map fun k => .ref (rowA k)))) (hro : ∀ k, k < r.T → σ (rowA k) = some (.list ((r.R k).map .int))) (hl : ∀ k, k < r.T → (r.R k).length ≤ 3) :
    WC C (lv 3).P 677 [.ref fo, .ref rw_] (fun x σ' => ∃ tr tf n, x = .ref tr ∧ σ tr = none ∧ σ' = upd σ tr (.dictI tf n) ∧ UI r tf ∧ Full r tf) σ := by
  refine WC_defC (fd := fd677) (body := bd677) (n := 2) (names := ["forms", "rows"]) (lv 3).P (fun _ h => h) (by rw [hK]; exact at677 _) (by rw [hK]; exact cd677 _) rfl rfl rfl rfl ?_ (by decide +kernel) (by decide +kernel) fun L hL hcl Qp hQp => ?_
  · intro vals hl
    refine xE2A0 (len2 hl) fun a b hr1_ => ?_
    obtain rfl := hr1_
    exact (by rfl)
  have gl : ∀ {α : Type} (f : Nat → α) (m i : Nat), i < m → ((List.range m).map f)[i]? = some (f i) := fun f m i hi => by rw [List.getElem?_map, List.getElem?_range hi]; rfl
  refine S_cons ?_
  repeat' w_up
  refine W_Dict (.dictI (fun _ => none) 0) ⟨rfl, rfl⟩ fun kn hkn => ?_
  repeat' w_up
  have N : ∀ {b o} (tf : Int → Option V) (n : Nat), σ b = some o → upd σ kn (.dictI tf n) b = some o := fun tf n e => upd_look (ne_fresh hkn e) e
  refine S_For (.inl (by o_inst)) (I_list ?_)
  w_up
  refine ⟨_, _, rfl, N _ _ hrw, fun i l' s' => l' "forms" = some (.ref fo) ∧ l' "rows" = some (.ref rw_) ∧ l' "trees" = some (.ref kn) ∧ ∃ tf n, s' = upd σ kn (.dictI tf n) ∧ UI r tf ∧ n ≤ 5 * i ∧ (Full r tf ∨ i ≤ cntT r tf), ⟨rfl, rfl, rfl, _, _, rfl, ⟨(fun k _ h => by cases h), (fun k _ h => by cases h)⟩, Nat.le_refl _, .inr (Nat.zero_le _)⟩, fun i l s h => ?_, ?_, ?_⟩
  · refine xE0A3 h fun _ _ _ hz2_ => ?_
    try clear h
    refine xE2A1 hz2_ fun tf n hr3_ _ => ?_
    clear hz2_
    obtain rfl := hr3_
    exact N _ _ hrw
  · intro J jJ i y l' s' hy hI_
    refine xE0A3 hI_ fun q1 q2 q3 hz4_ => ?_
    try clear hI_
    refine xE2A3 hz4_ fun tf n hs hU hn hF => ?_
    clear hz4_
    have hi : i < r.T := by
      have := (List.getElem?_eq_some_iff.mp hy).1
      simpa using this
    subst hs
    have nrw := N tf n hrw
    repeat' w_up
    refine S_For (.inl (by o_inst)) (I_range1 (by w_side) PyProof.Rows.boot_range (by decide) (by o_inst) ?_)
    repeat' w_up
    rw [List.length_map, List.length_range]
    refine ⟨_, rfl, by (first | lia | omega), by (first | lia | omega), fun k l' s' => l' "forms" = some (.ref fo) ∧ l' "rows" = some (.ref rw_) ∧ l' "trees" = some (.ref kn) ∧ ∃ tf' n', s' = upd σ kn (.dictI tf' n') ∧ UI r tf' ∧ n' ≤ 5 * i + k ∧ Ext tf tf' ∧ (∀ j, j < k → r.ready tf j → (tf' j).isSome = true), ⟨q1, q2, q3, tf, n, rfl, hU, hn, Ext.refl _, fun j hj => absurd hj (Nat.not_lt_zero _)⟩, fun _ _ _ _ => trivial, ?_, ?_⟩
    · intro J jJ k y l' s' hy hI_
      refine xE0A3 hI_ fun q1 q2 q3 hz5_ => ?_
      try clear hI_
      refine xE2A4 hz5_ fun tf' n' hs hU hn hx hj => ?_
      clear hz5_
      refine xE0A1 (steps_01 _ hy) fun hk hr6_ => ?_
      obtain rfl := hr6_
      rw [Int.toNat_natCast] at hk
      subst hs
      have nfo := N tf' n' hfo
      have nrw := N tf' n' hrw
      have nro := N tf' n' (hro k hk)
      repeat' w_up
      refine O_notIn_dictI (upd_same _ _ _) ⟨_, rfl, ?_⟩
      cases htf : tf' k with
      | some v =>
        show @ite _ (false = true) _ _ _
        repeat' w_up
        refine jJ ⟨q1, q2, q3, tf', n', rfl, hU, by (first | lia | omega), hx, fun j hjk hr => ?_⟩
        by_cases q : j = k
        · rw [q, htf]; rfl
        · exact hj j (by (first | lia | omega)) hr
      | none =>
        show @ite _ (true = true) _ _ _
        refine ite_t ?_
        refine WG.less ?_
        refine W_testCmp ?_
        refine W_ListComp (by rfl) (I_list ?_)
        repeat' w_up
        refine O_sub_list nrw (by (first | lia | omega)) (by (first | lia | omega)) (gl _ _ _ (by simpa using hk)) ?_
        refine ⟨rowA k, _, rfl, nro, by rw [List.length_map]; have := hl k hk; (first | lia | omega), fun i acc s => s = upd σ kn (.dictI tf' n') ∧ acc = (((r.R k).take i).filter (fun e => decide (e ≥ 0) && !(tf' e).isSome)).map .int, ⟨rfl, rfl⟩, fun i acc s h => ⟨by rw [h.1]; exact nro, by rw [h.2, List.length_map]; exact Nat.le_trans (List.length_filter_le _ _) (by simp; (first | lia | omega))⟩, ?_, ?_⟩
        · intro Cn i y acc σ' hy hI_
          refine xE0A1 hI_ fun e1 e2 => ?_
          try clear hI_
          rw [List.getElem?_map] at hy
          refine xE1A1 (Option.map_eq_some_iff.mp hy) fun e he hr7_ => ?_
          obtain rfl := hr7_
          subst e1
          have et : (r.R k).take (i + 1) = (r.R k).take i ++ [e] := by rw [List.take_add_one, he]; rfl
          show WB _ _ _ _ (isTrue _ _ _) _ _
          repeat' w_up
          · rename_i h0
            refine W_Name (W_loadC (v := .ref kn) (setL_ne (by decide +kernel) (locF_of (kd := .cell) (by rfl) (by decide) (setL_ne (by decide +kernel) q3))) (by rfl) ?_)
            refine O_notIn_dictI (upd_same _ _ _) ⟨_, rfl, ?_⟩
            cases hte : tf' e with
            | none =>
              show @ite _ (true = true) _ _ _
              repeat' w_up
              refine ⟨rfl, ?_⟩
              rw [et, List.filter_append, List.map_append, e2]
              simp [h0, hte]
            | some v =>
              show @ite _ (false = true) _ _ _
              refine ite_f ?_
              refine ⟨rfl, ?_⟩
              rw [et, List.filter_append, List.map_append, e2]
              simp [h0, hte]
          · rename_i h0
            refine ⟨rfl, ?_⟩
            rw [et, List.filter_append, List.map_append, e2]
            simp [h0]
        · intro acc s hI_ a ha
          refine xE0A1 hI_ fun e1 e2 => ?_
          try clear hI_
          subst e1
          rw [List.length_map, List.take_length] at e2
          repeat' w_up
          rename_i b hb
          refine Op_eqInts (m := []) (upd_look (ne_fresh hb (upd_same _ _ _)) (by rw [e2]; exact upd_same _ _ _)) (upd_same _ _ _) ⟨_, rfl, upd σ kn (.dictI tf' n'), ((Sub.refl _).fresh ha).fresh hb, ?_⟩
          by_cases hrd : r.ready tf' k
          · have : ((r.R k).filter fun e => decide (e ≥ 0) && !(tf' e).isSome) = [] := List.filter_eq_nil_iff.mpr fun e he => by
              by_cases h0 : e ≥ 0
              · simp [hrd e he h0]
              · simp [h0]
            rw [decide_eq_true this]
            refine ite_t ?_
            repeat' w_up
            refine O_sub_list nfo (by (first | lia | omega)) (by (first | lia | omega)) (gl _ _ _ (by simpa using hk)) ?_
            repeat' w_up
            refine W_ListComp (by rfl) (I_list ?_)
            repeat' w_up
            refine O_sub_list nrw (by (first | lia | omega)) (by (first | lia | omega)) (gl _ _ _ (by simpa using hk)) ?_
            refine ⟨rowA k, _, rfl, nro, by rw [List.length_map]; have := hl k hk; (first | lia | omega), fun i acc s => s = upd σ kn (.dictI tf' n') ∧ acc = ((r.R k).take i).map (partV tf'), ⟨rfl, rfl⟩, fun i acc s h => ⟨by rw [h.1]; exact nro, by rw [h.2, List.length_map]; simp; (first | lia | omega)⟩, ?_, ?_⟩
            · intro Cn i y acc σ' hy hI_
              refine xE0A1 hI_ fun e1 e2 => ?_
              try clear hI_
              rw [List.getElem?_map] at hy
              refine xE1A1 (Option.map_eq_some_iff.mp hy) fun e he hr8_ => ?_
              obtain rfl := hr8_
              subst e1
              have et : (r.R k).take (i + 1) = (r.R k).take i ++ [e] := by rw [List.take_add_one, he]; rfl
              unfold WT
              simp only [if_true]
              repeat' w_up
              refine W_Name (W_loadC (v := .ref kn) (setL_ne (by decide +kernel) (locF_of (kd := .cell) (by rfl) (by decide) (setL_ne (by decide +kernel) q3))) (by rfl) ?_)
              repeat' w_up
              refine (part_ok hK (upd_same _ _ _) (hrd e (List.mem_of_getElem? he))).use (by decide) fun x s hI_ => ?_
              refine xE0A1 hI_ fun e1 e3 => ?_
              try clear hI_
              subst e1
              obtain rfl := e3.symm
              refine ⟨rfl, ?_⟩
              rw [et, List.map_append, e2]; rfl
            · intro acc s hI_ b hb
              refine xE0A1 hI_ fun e1 e2 => ?_
              try clear hI_
              subst e1
              rw [List.length_map, List.take_length] at e2
              repeat' w_up
              refine CallT.less (T_tuple (upd_same _ _ _) (by rw [e2, List.length_map]; have := hl k hk; (first | lia | omega)) ⟨_, Sub.fresh (Sub.refl _) hb, ?_⟩)
              rw [e2]
              repeat' w_up
              refine Set_dictI (upd_same _ _ _) (by (first | lia | omega)) ?_
              rw [upd_upd]
              repeat' w_up
              have hnk : tf' (k : Int) = none := htf
              refine jJ ⟨q1, q2, q3, addT r tf' k, n' + 1, rfl, hU.add ok hk hnk hrd, by (first | lia | omega), hx.trans (addT_ext hnk), fun j hjk hr => ?_⟩
              by_cases q : j = k
              · subst q; unfold addT; rw [if_pos rfl]; rfl
              · exact (addT_ext hnk).some (hj j (by (first | lia | omega)) hr)
          · have : ((r.R k).filter fun e => decide (e ≥ 0) && !(tf' e).isSome) ≠ [] := fun h => hrd fun e he h0 => by
              have := List.filter_eq_nil_iff.mp h e he
              cases hq : tf' e with
              | none => simp [h0, hq] at this
              | some v => rfl
            rw [decide_eq_false this]
            refine ite_f ?_
            repeat' w_up
            refine jJ ⟨q1, q2, q3, tf', n', rfl, hU, by (first | lia | omega), hx, fun j hjk hr => ?_⟩
            by_cases q : j = k
            · subst q; exact absurd (hr.ext hx) hrd
            · exact hj j (by (first | lia | omega)) hr
    · intro l' s' hI_
      refine xE0A3 hI_ fun q1 q2 q3 hz9_ => ?_
      try clear hI_
      refine xE2A4 hz9_ fun tf' n' hs hU' hn hx hj => ?_
      clear hz9_
      rw [steps_length, Int.toNat_natCast] at hj hn
      subst hs
      repeat' w_up
      exact jJ ⟨q1, q2, q3, tf', n', rfl, hU', by (first | lia | omega), round ok hx hj hF⟩
  · intro l' s' hI_
    refine xE0A3 hI_ fun q1 q2 q3 hz10_ => ?_
    try clear hI_
    refine xE2A3 hz10_ fun tf n hs hU hn hF => ?_
    clear hz10_
    rw [List.length_map, List.length_range] at hF
    subst hs
    repeat' w_up
    exact ⟨_, fun _ _ h => h, kn, tf, n, rfl, hkn, rfl, hU, full_end hF⟩
end

noncomputable def ofN (S : List Nat) : List Int := S.map fun (k : Nat) => (k : Int)
theorem any_ofN (S : List Nat) (k : Nat) : (ofN S).any (· == (k : Int)) = decide (k ∈ S) := by
  rw [Bool.eq_iff_iff]
  simp only [List.any_eq_true, ofN, List.mem_map, decide_eq_true_eq]
  constructor
  · rintro ⟨x, ⟨y, hy, rfl⟩, h⟩
    have h' : y = k := by have := beq_iff_eq.mp h; (first | lia | omega)
    rw [← h']; exact hy
  · intro h; exact ⟨_, ⟨k, h, rfl⟩, by simp⟩
theorem any_int (l : List Int) (k : Int) : l.any (· == k) = decide (k ∈ l) := by
  rw [Bool.eq_iff_iff]
  simp only [List.any_eq_true, decide_eq_true_eq]
  constructor
  · rintro ⟨x, hx, h⟩
    have : x = k := by simpa using h
    rwa [← this]
  · intro h; exact ⟨k, h, by simp⟩
section
variable {C : Cx} (hK : C.K = KK C.w.params) {σ : Sg}
include hK
theorem reached_ok {rw_ : Addr} {rowA : Nat → Addr} {r : Rw} {root : Nat} (ok : r.Ok) (hT : r.T ≤ 5) (hroot : root < r.T) (hrw : σ rw_ = some (.list ((List.range r.T).map fun k => .ref (rowA k)))) (hro : ∀ k, k < r.T → σ (rowA k) = some (.list ((r.R k).map .int))) :
    WC C (lv 3).P 682 [.ref rw_, .int root] (fun x σ' => ∃ se S, x = .ref se ∧ σ se = none ∧ σ' = upd σ se (.list ((ofN S).map .int)) ∧ SI r root S ∧ FullS r root S) σ := by
  refine WC_defC (fd := fd682) (body := bd682) (n := 2) (names := ["rows", "root"]) (lv 3).P (fun _ h => h) (by rw [hK]; exact at682 _) (by rw [hK]; exact cd682 _) rfl rfl rfl rfl ?_ (by decide +kernel) (by decide +kernel) fun L hL hcl Qp hQp => ?_
  · intro vals hl
    refine xE2A0 (len2 hl) fun a b hr1_ => ?_
    obtain rfl := hr1_
    exact (by rfl)
  have gl : ∀ {α : Type} (f : Nat → α) (m i : Nat), i < m → ((List.range m).map f)[i]? = some (f i) := fun f m i hi => by rw [List.getElem?_map, List.getElem?_range hi]; rfl
  refine S_cons ?_
  repeat' w_up
  rename_i se hse
  have N : ∀ {b o} (l : List V), σ b = some o → upd σ se (.list l) b = some o := fun l e => upd_look (ne_fresh hse e) e
  have lenS : ∀ {S}, SI r root S → S.length ≤ 5 := fun h => Nat.le_trans (nodup_lt r.T _ h.nd fun x hx => (h.rr x hx).lt ok hroot) hT
  refine S_For (.inl (by o_inst)) (I_list ?_)
  w_up
  refine ⟨_, _, rfl, N _ hrw, fun i l' s' => l' "rows" = some (.ref rw_) ∧ l' "seen" = some (.ref se) ∧ ∃ S, s' = upd σ se (.list ((ofN S).map .int)) ∧ SI r root S ∧ (FullS r root S ∨ i + 1 ≤ S.length), ⟨rfl, rfl, [root], rfl, ⟨by simp, by simp, fun k hk => by rw [List.mem_singleton.mp hk]; exact .root⟩, .inr (by simp)⟩, fun i l s h => ?_, ?_, ?_⟩
  · refine xE0A2 h fun _ _ hz2_ => ?_
    try clear h
    refine xE1A1 hz2_ fun S hr3_ _ => ?_
    clear hz2_
    obtain rfl := hr3_
    exact N _ hrw
  · intro J jJ i y l' s' hy hI_
    refine xE0A2 hI_ fun q1 q2 hz4_ => ?_
    try clear hI_
    refine xE1A2 hz4_ fun S hs hS hF => ?_
    clear hz4_
    have hi : i < r.T := by
      have := (List.getElem?_eq_some_iff.mp hy).1
      simpa using this
    subst hs
    have nrw := N ((ofN S).map .int) hrw
    repeat' w_up
    refine S_For (.inr (by o_inst)) (I_range1 (by w_side) PyProof.Rows.boot_range (by decide) (by o_inst) ?_)
    repeat' w_up
    rw [List.length_map, List.length_range]
    refine ⟨_, rfl, by (first | lia | omega), by (first | lia | omega), fun k l' s' => l' "rows" = some (.ref rw_) ∧ l' "seen" = some (.ref se) ∧ ∃ X, s' = upd σ se (.list ((ofN (S ++ X)).map .int)) ∧ SI r root (S ++ X) ∧ (∀ j, j < k → (∃ one ∈ S, (j : Int) ∈ r.R one) → j ∈ S ++ X), ⟨q1, q2, [], by simp, by simpa using hS, fun j hj => absurd hj (Nat.not_lt_zero _)⟩, fun _ _ _ _ => trivial, ?_, ?_⟩
    · intro J jJ k y l' s' hy hI_
      refine xE0A2 hI_ fun q1 q2 hz5_ => ?_
      try clear hI_
      refine xE1A2 hz5_ fun X hs hX hj => ?_
      clear hz5_
      refine xE0A1 (steps_01 _ hy) fun hk hr6_ => ?_
      obtain rfl := hr6_
      rw [Int.toNat_natCast] at hk
      subst hs
      have nrw := N ((ofN (S ++ X)).map .int) hrw
      have hl5 := lenS hX
      repeat' w_up
      refine O_notIn_list (upd_same _ _ _) ⟨_, rfl, ?_⟩
      rw [any_ofN]
      by_cases hin : k ∈ S ++ X
      · rw [decide_eq_true hin]
        show @ite _ (false = true) _ _ _
        repeat' w_up
        refine jJ ⟨q1, q2, X, rfl, hX, fun j hjk hex => ?_⟩
        by_cases q : j = k
        · rw [q]; exact hin
        · exact hj j (by (first | lia | omega)) hex
      · rw [decide_eq_false hin]
        show @ite _ (true = true) _ _ _
        refine ite_t ?_
        refine WG.less ?_
        refine W_testCmp ?_
        refine W_ListComp (by rfl) (I_list ?_)
        w_up
        refine ⟨se, _, rfl, upd_same _ _ _, by simp [ofN]; simp at hl5; (first | lia | omega), fun i acc s => s = upd σ se (.list ((ofN (S ++ X)).map .int)) ∧ acc = (ofN (((S ++ X).take i).filter (fun one => decide ((k : Int) ∈ r.R one)))).map .int, ⟨rfl, rfl⟩, fun i acc s h => ⟨by rw [h.1]; exact upd_same _ _ _, by rw [h.2, List.length_map]; unfold ofN; rw [List.length_map]; exact Nat.le_trans (List.length_filter_le _ _) (by simp; (first | lia | omega))⟩, ?_, ?_⟩
        · intro Cn i y acc σ' hy ⟨e1, e2⟩
          rw [List.getElem?_map] at hy
          refine xE1A1 (Option.map_eq_some_iff.mp hy) fun e he hr7_ => ?_
          obtain rfl := hr7_
          unfold ofN at he
          rw [List.getElem?_map] at he
          refine xE1A1 (Option.map_eq_some_iff.mp he) fun one ho hr8_ => ?_
          obtain rfl := hr8_
          subst e1
          have hone := (hX.rr one (List.mem_of_getElem? ho)).lt ok hroot
          have et : (S ++ X).take (i + 1) = (S ++ X).take i ++ [one] := by rw [List.take_add_one, ho]; rfl
          have nro := N ((ofN (S ++ X)).map .int) (hro one hone)
          show WB _ _ _ _ (isTrue _ _ _) _ _
          refine W_testCmp ?_
          refine W_Name (W_loadC (v := .int k) (setL_ne (by decide +kernel) (locF_of (kd := .cell) (by rfl) (by decide) (setL_same _ _ _))) (by rfl) ?_)
          refine W_Sub ?_
          refine W_Name (W_loadC (v := .ref rw_) (setL_ne (by decide +kernel) (locF_of (kd := .cell) (by rfl) (by decide) (setL_ne (by decide +kernel) q1))) (by rfl) ?_)
          repeat' w_up
          refine O_sub_list nrw (by (first | lia | omega)) (by (first | lia | omega)) (gl _ _ _ (by simpa using hone)) ?_
          rw [Int.toNat_natCast]
          refine O_in_list nro ⟨_, rfl, ?_⟩
          rw [any_int]
          by_cases hmem : (k : Int) ∈ r.R one
          · rw [decide_eq_true hmem]
            refine ite_t ?_
            repeat' w_up
            refine ⟨rfl, ?_⟩
            rw [et, List.filter_append, e2]
            simp [ofN, hmem]
          · rw [decide_eq_false hmem]
            refine ite_f ?_
            refine ⟨rfl, ?_⟩
            rw [et, List.filter_append, e2]
            simp [ofN, hmem]
        · intro acc s ⟨e1, e2⟩ a ha
          subst e1
          have hlS : ((ofN (S ++ X)).map V.int).length = (S ++ X).length := by simp [ofN]
          rw [hlS, List.take_length] at e2
          repeat' w_up
          rename_i b hb
          refine Op_neInts (m := []) (upd_look (ne_fresh hb (upd_same _ _ _)) (by rw [e2]; exact upd_same _ _ _)) (upd_same _ _ _) ⟨_, rfl, upd σ se (.list ((ofN (S ++ X)).map .int)), ((Sub.refl _).fresh ha).fresh hb, ?_⟩
          by_cases hex : ∃ one ∈ S ++ X, (k : Int) ∈ r.R one
          · have : ofN ((S ++ X).filter fun one => decide ((k : Int) ∈ r.R one)) ≠ [] := fun h => by
              refine xE1A1 hex fun one ho hm => ?_
              try clear hex
              have h' : (S ++ X).filter (fun one => decide ((k : Int) ∈ r.R one)) = [] := List.map_eq_nil_iff.mp h
              have := List.filter_eq_nil_iff.mp h' one ho
              simp [hm] at this
            rw [decide_eq_false this]
            refine ite_t ?_
            repeat' w_up
            refine xE1A1 hex fun one ho hm => ?_
            try clear hex
            refine jJ ⟨q1, q2, X ++ [k], ?_, ?_, fun j hjk hex => ?_⟩
            · rw [upd_upd]; congr 2; simp [ofN]
            · rw [← List.append_assoc]; exact hX.add ho hm hin
            · rw [← List.append_assoc]
              by_cases q : j = k
              · rw [q]; simp
              · exact List.mem_append_left _ (hj j (by (first | lia | omega)) hex)
          · have : ofN ((S ++ X).filter fun one => decide ((k : Int) ∈ r.R one)) = [] := by
              have : (S ++ X).filter (fun one => decide ((k : Int) ∈ r.R one)) = [] := List.filter_eq_nil_iff.mpr fun one ho => by
                have : ¬ (k : Int) ∈ r.R one := fun h => hex ⟨one, ho, h⟩
                simp [this]
              rw [this]; rfl
            rw [decide_eq_true this]
            refine ite_f ?_
            repeat' w_up
            refine jJ ⟨q1, q2, X, rfl, hX, fun j hjk he => ?_⟩
            by_cases q : j = k
            · subst q
              refine xE1A1 he fun one ho hm => ?_
              try clear he
              exact absurd ⟨one, List.mem_append_left _ ho, hm⟩ hex
            · exact hj j (by (first | lia | omega)) he
    · intro l' s' hI_
      refine xE0A2 hI_ fun q1 q2 hz9_ => ?_
      try clear hI_
      refine xE1A2 hz9_ fun X hs hX hj => ?_
      clear hz9_
      rw [steps_length, Int.toNat_natCast] at hj
      subst hs
      repeat' w_up
      exact jJ ⟨q1, q2, S ++ X, rfl, hX, roundS ok hroot hS rfl hj hF⟩
  · intro l' s' hI_
    refine xE0A2 hI_ fun q1 q2 hz10_ => ?_
    try clear hI_
    refine xE1A2 hz10_ fun S hs hS hF => ?_
    clear hz10_
    rw [List.length_map, List.length_range] at hF
    subst hs
    repeat' w_up
    exact ⟨_, fun _ _ h => h, se, S, rfl, hse, rfl, hS, fullS_end ok hroot hS hF⟩
end
end
section
noncomputable def lawOf : List Stmt → List Stmt × Scope
  | .FunctionDef n _ b _ _ _ sc _ _ _ :: r => if n == "law" then (b, sc) else lawOf r
  | _ :: r => lawOf r
  | [] => ([], { kind := .function, names := [], isGenerator := false, isCoroutine := false, more := [] })
noncomputable def bdLaw : List Stmt := (lawOf PySem.Challenge.pw_rh0107_01.main.body).1
noncomputable def scLaw : Scope := (lawOf PySem.Challenge.pw_rh0107_01.main.body).2
noncomputable def envLaw (nm : Str) (L fa : Addr) (cd : Value) : Env := PyProof.Rows.envOfC nm scLaw L fa cd
section
variable {C : Cx} {R : Rm} {env : Env} {loc : Loc} {σ : Sg}
/-- a list of the ground: its length, its head -/
structure Grd (C : Cx) (a : Addr) (vs : List V) : Prop where
  h : ∃ o items n, C.h₀.get? a = some o ∧ o.cls = .type "list" ∧ o.data = .seq items n ∧ Reps C.h₀ items.toList vs
theorem At.grd {h : Heap} {a : Addr} {vs : List V} (x : At C h σ) (g : Grd C a vs) : ∃ items, h.IsList a items ∧ Reps h items.toList vs := by
  refine xE3A3 g.h fun o items n e hc hd hr => ?_
  exact ⟨items, ⟨o, x.keep _ _ e, hc, n, hd⟩, hr.keep (N := fun _ => False) (fun b o e _ => x.keep b o e) (fun _ n => n.elim)⟩
theorem B_lenG {a : Addr} {vs : List V} {P : V → Sg → Prop} (g : Grd C a vs) (hn : vs.length ≤ 1000000) (h : P (.int vs.length) σ) : CallB C R env loc "len" [.ref a] P σ := by
  intro vals A s Q E r at_ f hv k
  cases hv with | cons h1 h2 => cases h2; cases h1 with
  | ref =>
    refine xE1A1 (at_.grd g) fun items he hr => ?_
    have hlen : items.size = vs.length := by have := hr.length; rwa [Array.length_toList] at this
    refine PyProof.Rows.len_list he (by (first | lia | omega)) ?_
    rw [hlen]
    exact k _ _ { s with toks := s.toks + 1 + 1 } σ (.int _ _) at_ (.toks ..) h
theorem W_SliceG {value hi : Expr} {p pos : Pos} {P : V → Sg → Prop}
    (h : WE C R env loc (eval value env) (fun x σ₁ => WE C R env loc (eval hi env) (fun y σ₂ => ∃ (a : Addr) (vs : List V) (i : Nat), x = .ref a ∧ Grd C a vs ∧ vs.length ≤ 100000 ∧ y = .int i ∧ ∀ b, σ₂ b = none → P (.ref b) (upd σ₂ b (.list (vs.take i)))) σ₁) σ)
    (ht : ∀ o r, letTemporaryGo value o r = pure () := by intro _ _; rfl) : WE C R env loc (eval (.Subscript value (.Slice none (some hi) none p) pos) env) P σ := by
  intro A s Q E r a f k
  refine wpAny_Subscript_list_slice (h A s _ E r a f fun v x s₁ σ₁ e1 e2 e3 e4 => ?_) ht
  have f1 := f.step a e3
  rw [evalPart_none]
  refine wpAny_pure ?_
  rw [evalPart_some]
  refine e4 A s₁ _ E r e2 f1 fun u y s₂ σ₂ z1 z2 z3 z4 => ?_
  refine Classical.byContradiction fun hG => ?_
  refine xE3A4 z4 fun l vs i hr1_ hl hn hr2_ hP => ?_
  try clear z4
  obtain rfl := hr1_
  obtain rfl := hr2_
  refine hG ?_
  clear hG
  cases e1; cases z1
  refine xE1A1 (z2.grd hl) fun items he hr => ?_
  have hlen : items.size = vs.length := by have := hr.length; rwa [Array.length_toList] at this
  refine ⟨l, items, _, _, rfl, he, by rw [sizeLine_eq]; (first | lia | omega), .none, .int _ _, ?_⟩
  have hpick : slicePick items none (some (i : Int)) none = (items.toList.take i).toArray := by
    by_cases q : i ≤ items.size
    · exact slicePick_upto items i q
    · have e : sliceBounds none (some (i : Int)) none items.size = sliceBounds none (some (items.size : Int)) none items.size := by
        simp only [sliceBounds, Option.getD_none]
        have h1 : ¬ ((i : Int) < 0) := by (first | lia | omega)
        have h2 : ¬ ((items.size : Int) < 0) := by (first | lia | omega)
        simp only [h1, h2, if_false, show (1 : Int) > 0 by decide, if_true]
        congr 2
        (first | lia | omega)
      have e2 : slicePick items none (some (i : Int)) none = slicePick items none (some (items.size : Int)) none := by unfold slicePick; rw [e]
      rw [e2, slicePick_upto items items.size (Nat.le_refl _)]
      rw [List.take_of_length_le (by simp), List.take_of_length_le (by simp; (first | lia | omega))]
  rw [hpick]
  obtain ⟨a2, s2⟩ := sliceList (C := C) (s₃ := s₂) (σ₃ := σ₂) (items := items) (vs := vs) (vl := .none) (vu := .int i _) (ws := vs.take i) (pick := (items.toList.take i).toArray) z2 (by simpa using hr.take i)
  exact k _ _ _ _ (.ref _) a2 (e3.trans (z3.trans s2)) (hP _ z2.fresh1)
end
set_option hygiene false
set_option compiler.extract_closed false
local macro_rules | `(tactic| o_new) => `(tactic| first
  | with_reducible assumption | (with_reducible exact setL_same _ _ _) | (with_reducible refine setL_ne (by kernel_rfl!) ?_; o_new) | (refine locF_cell (by with_unfolding_all rfl) ?_; o_new) | (with_reducible exact locOf_hit (by kernel_rfl!)) | (with_reducible refine locOf_skip ?_; o_new) | rfl)
set_option hygiene true
set_option hygiene false
set_option compiler.extract_closed false
local macro_rules | `(tactic| w_up) => `(tactic| ((with_reducible show WG _ _ _ _ Rep (eval (.Subscript _ (.Slice none _ none _) _) _) _ _); refine W_SliceG ?_))
set_option hygiene true

noncomputable def bk0 : List Str × List Cell := bkFns (bkAts [] atoms0, []) rows0
noncomputable def bk1 : List Str × List Cell × Nat := bkFn bk0.1 bk0.2 "p" 1
noncomputable def bk2 : List Str × List Cell × Nat := bkFn bk1.1 bk1.2.1 "q" 2
noncomputable def bk3 : List Str × List Cell × Nat := bkFn bk2.1 bk2.2.1 "r" 3
noncomputable def bk4 : List Str × List Cell × Nat := bkFn bk3.1 bk3.2.1 "resource_error" 1
noncomputable def bk5 : List Str × Nat := bkAt bk4.1 "memory"
theorem bk_num : bk1.2.2 = 32 ∧ bk2.2.2 = 33 ∧ bk3.2.2 = 34 := by decide +kernel
theorem bk_len : bk0.1.length = 29 ∧ bk1.1.length = 30 ∧ bk2.1.length = 31 ∧ bk3.1.length = 32 ∧ bk4.1.length = 33 ∧ bk0.2.length = 32 ∧ bk1.2.1.length = 33 ∧ bk2.2.1.length = 34 ∧ bk3.2.1.length = 35 ∧ bk4.2.1.length = 36 := by decide +kernel
theorem bk_lt : bk1.1.length < 900 ∧ bk2.1.length < 900 ∧ bk3.1.length < 900 ∧ bk4.1.length < 900 := by decide +kernel
theorem bk_lt2 : bk1.2.1.length < 900 ∧ bk2.2.1.length < 900 ∧ bk3.2.1.length < 900 ∧ bk4.2.1.length < 900 := by decide +kernel
theorem fs_ok3 : FsOk bk3.2.1 := fun m h1 h2 => by
  have : m = 1 ∨ m = 2 ∨ m = 3 := by (first | lia | omega)
  rcases this with rfl | rfl | rfl
  · exact ⟨29, by decide +kernel⟩
  · exact ⟨30, by decide +kernel⟩
  · exact ⟨31, by decide +kernel⟩
theorem Wd.book {σ : Sg} {a : Ads} {c : Int} {ns : List Int} {ts ts' : List Str} {fs fs' : List Cell} {cells : List Cell} {xs : List V} (W : Wd σ a c ns ts fs cells xs) (h1 : ts'.length < 900) (h2 : fs'.length < 900) : Wd (bkS σ a.tx a.an a.fu a.fn ts' fs') a c ns ts' fs' cells xs := by
  have N : ∀ (i : Fin 16), i ≠ 4 → i ≠ 5 → i ≠ 6 → i ≠ 7 → ∀ {o}, σ (a.all[i.val]'(i.2)) = some o → (bkS σ a.tx a.an a.fu a.fn ts' fs') (a.all[i.val]'(i.2)) = some o := fun i h4 h5 h6 h7 o e =>
    upd_look (W.ne i 7 h7) (upd_look (W.ne i 6 h6) (upd_look (W.ne i 5 h5) (upd_look (W.ne i 4 h4) e)))
  have B' := W.B.put W.bka h1 h2
  refine Classical.byContradiction fun hG => ?_
  obtain ⟨p1, p2, hn, hl, hc, B, a1, a2, ⟨s1, s2, s3, s4, s5, s6, n1, n2, n3, n4⟩, x, nd⟩ := W
  refine hG ?_
  clear hG
  exact ⟨N 0 (by decide) (by decide) (by decide) (by decide) p1, N 1 (by decide) (by decide) (by decide) (by decide) p2, hn, hl, hc, B', N 8 (by decide) (by decide) (by decide) (by decide) a1, N 9 (by decide) (by decide) (by decide) (by decide) a2,
    ⟨N 10 (by decide) (by decide) (by decide) (by decide) s1, N 11 (by decide) (by decide) (by decide) (by decide) s2, N 12 (by decide) (by decide) (by decide) (by decide) s3, N 13 (by decide) (by decide) (by decide) (by decide) s4, N 14 (by decide) (by decide) (by decide) (by decide) s5, s6, n1, n2, n3, n4⟩, N 15 (by decide) (by decide) (by decide) (by decide) x, nd⟩
/-- what stands when the world is made -/
structure StA (σ : Sg) (a : Ads) (loc : Loc) (ki : Addr) (T : Nat) (c : Int) (ns : List Int) (cells : List Cell) : Prop where
  W : Wd σ a c ns bk3.1 bk3.2.1 cells [cv (5, 0)]
  lp : loc "pot" = some (.ref a.po)
  lb : loc "book" = some (.ref a.bk)
  la : loc "areas" = some (.ref a.ar)
  ls : loc "store" = some (.ref a.st)
  lk : loc "kinds" = some (.ref ki)
  lt : loc "total" = some (.int T)
  lf : loc "fault" = none
  k : σ ki = some (.list [.int 0, .int 32, .int 33, .int 34])
  ko : ki ∉ a.all
  t1 : 1 ≤ T
  t5 : T ≤ 5
theorem S_seq {C : Cx} {R : Rm} {env : Env} {X : XT C R env} {loc : Loc} {σ : Sg} {P : Fl → Loc → Sg → Prop} {st : Stmt} {rest : List Stmt} (Q0 : Loc → Sg → Prop) (h : WS C R env X (exec st env) (fun fl l s => fl = .next ∧ Q0 l s) loc σ) (k : ∀ l s, Q0 l s → WS C R env X (execs rest env) P l s) : WS C R env X (execs (st :: rest) env) P loc σ := by
  refine S_cons (h.mono fun fl l s hq => ?_)
  refine xE0A1 hq fun hr3_ hq' => ?_
  obtain rfl := hr3_
  exact k l s hq'
theorem two_ne {σ : Sg} {a b : Addr} {x y : AO} (h1 : σ a = some x) (h2 : σ b = some y) (h : x ≠ y) : a ≠ b := fun q => h (by rw [q, h2] at h1; exact (Option.some.inj h1).symm)
theorem nsNe {f g : Str → Option V} {n m : Nat} (x : Str) (h : f x ≠ g x) : AO.ns f n ≠ AO.ns g m := fun e => h (by cases e; rfl)
theorem two_neT {σ : Sg} {a b : Addr} {x y : AO} (h1 : σ a = some x) (h2 : σ b = some y) (h : Nat.beq x.ctorIdx y.ctorIdx = false) : a ≠ b := two_ne h1 h2 fun e => by rw [e, Nat.beq_refl] at h; cases h
theorem al {p : Addr → Prop} {x : Addr} {l : List Addr} (h : p x) (k : ∀ y ∈ l, p y) : ∀ y ∈ x :: l, p y := List.forall_mem_cons.mpr ⟨h, k⟩
theorem al0 {p : Addr → Prop} : ∀ y ∈ ([] : List Addr), p y := fun _ h => nomatch h
theorem nd_cons {x : Addr} {l : List Addr} (h : ∀ y ∈ l, x ≠ y) (k : l.Nodup) : (x :: l).Nodup := List.nodup_cons.mpr ⟨fun m => h x m rfl, k⟩
theorem bk_nodup {bk bd tx an fu fn : Addr} (A : BkA bk bd tx an fu fn) (bb : bk ≠ bd) : [bk, bd, tx, an, fu, fn].Nodup := by
  obtain ⟨⟨e1, e2, e3, e4⟩, ⟨f1, f2, f3, f4⟩, ⟨g1, g2, g3, g4, g5, g6⟩⟩ := A
  exact nd_cons (al bb (al e1 (al e2 (al e3 (al e4 al0))))) (nd_cons (al f1 (al f2 (al f3 (al f4 al0)))) (nd_cons (al g1 (al g2 (al g3 al0))) (nd_cons (al g4 (al g5 al0)) (nd_cons (al g6 al0) (nd_cons al0 List.nodup_nil)))))
theorem ar_nodup {σ σ' : Sg} {bk co ar ad st sd hp sk tr xl ro ba : Addr} (A : AMade σ σ' bk co ar ad st sd hp sk tr xl ro ba) : [ar, ad, st, sd, hp, sk, tr, xl].Nodup := by
  have S := A.S
  have d := A.dif
  have a1 := A.a1
  have a2 := A.a2
  have x := A.x
  have s1 := S.h1
  have s2 := S.h2
  have s3 := S.h3
  have s4 := S.h4
  have s5 := S.h5
  exact nd_cons (al (two_neT a1 a2 rfl) (al (two_ne a1 s1 (fun h => by cases h)) (al (two_neT a1 s2 rfl) (al (two_neT a1 s3 rfl) (al (two_neT a1 s4 rfl) (al (two_neT a1 s5 rfl) (al (two_neT a1 x rfl) al0)))))))
    (nd_cons (al (two_neT a2 s1 rfl) (al (two_ne a2 s2 (nsNe "heap" (fun e => nomatch (show (none : Option V) = some _ from e)))) (al (two_neT a2 s3 rfl) (al (two_neT a2 s4 rfl) (al (two_neT a2 s5 rfl) (al (two_neT a2 x rfl) al0))))))
    (nd_cons (al (two_neT s1 s2 rfl) (al S.n1 (al (two_neT s1 s4 rfl) (al (two_neT s1 s5 rfl) (al (two_neT s1 x rfl) al0)))))
    (nd_cons (al S.n2 (al (two_neT s2 s4 rfl) (al (two_neT s2 s5 rfl) (al (two_neT s2 x rfl) al0))))
    (nd_cons (al S.n3.symm (al S.n4.symm (al d.1.symm al0))) (nd_cons (al d.2.2.2 (al d.2.1.symm al0)) (nd_cons (al d.2.2.1.symm al0) (nd_cons al0 List.nodup_nil)))))))
theorem wd_of {σ1 σ2 σ2' σ3 : Sg} {po nu bk bd tx an fu fn co ar ad st sd hp sk tr xl ro ba : Addr} {ns : List Int} {ts : List Str} {fs : List Cell} (h1 : σ1 po = some (.list [.int 0, .ref nu])) (h2 : σ1 nu = some (.list (ns.map .int))) (hn : ns ≠ []) (hl : ns.length ≤ 1000) (hne : po ≠ nu)
    (M : Made σ1 σ2 bk bd tx an fu fn ts fs) (hs : Sub σ2 σ2') (A : AMade σ2' σ3 bk co ar ad st sd hp sk tr xl ro ba) : Wd σ3 ⟨po, nu, bk, bd, tx, an, fu, fn, ar, ad, st, sd, hp, sk, tr, xl, co, ro, ba⟩ 0 ns ts fs [] [cv (5, 0)] := by
  have s23 : Sub σ2 σ3 := hs.trans A.sub
  have s13 : Sub σ1 σ3 := M.S.trans s23
  have m := M.new
  have n := A.new
  have B := M.B
  have c1 : ∀ x ∈ [po, nu], σ1 x ≠ none := al (fun e => nomatch h1.symm.trans e) (al (fun e => nomatch h2.symm.trans e) al0)
  have k : ∀ {x o}, σ1 x = none → σ2 x = some o → σ1 x = none ∧ σ2' x ≠ none := fun h e => ⟨h, fun z => nomatch (hs _ _ e).symm.trans z⟩
  have c2 : ∀ x ∈ [bk, bd, tx, an, fu, fn], σ1 x = none ∧ σ2' x ≠ none := al (k m.1 B.b1) (al (k m.2.1 B.b2) (al (k m.2.2.1 B.b3) (al (k m.2.2.2.1 B.b4) (al (k m.2.2.2.2.1 B.b5) (al (k m.2.2.2.2.2 B.b6) al0)))))
  have c3 : ∀ x ∈ [ar, ad, st, sd, hp, sk, tr, xl], σ2' x = none := al n.1 (al n.2.1 (al n.2.2.1 (al n.2.2.2.1 (al n.2.2.2.2.1 (al n.2.2.2.2.2.1 (al n.2.2.2.2.2.2.1 (al n.2.2.2.2.2.2.2 al0)))))))
  have sub12 : ∀ x, σ2' x = none → σ1 x = none := fun x hx => (M.S.trans hs).none hx
  have nd : ([po, nu] ++ ([bk, bd, tx, an, fu, fn] ++ [ar, ad, st, sd, hp, sk, tr, xl])).Nodup :=
    List.nodup_append.mpr ⟨nd_cons (al hne al0) (nd_cons al0 List.nodup_nil), List.nodup_append.mpr ⟨bk_nodup M.A (two_neT B.b1 B.b2 rfl), ar_nodup A, fun x hx y hy e => (c2 x hx).2 (e ▸ c3 y hy)⟩,
      fun x hx y hy e => (List.mem_append.mp hy).elim (fun hy => c1 x hx (e ▸ (c2 y hy).1)) fun hy => c1 x hx (e ▸ sub12 y (c3 y hy))⟩
  exact ⟨s13 _ _ h1, s13 _ _ h2, hn, hl, Int.le_refl _, ⟨s23 _ _ B.b1, s23 _ _ B.b2, s23 _ _ B.b3, s23 _ _ B.b4, s23 _ _ B.b5, s23 _ _ B.b6, B.l1, B.l2⟩, A.a1, A.a2, A.S, A.x, nd⟩
section
variable {C : Cx} (hK : C.K = KK C.w.params) {R : Rm} {nm : Str} {L fa : Addr} {cd : Value}
include hK
theorem lawA {sl : Addr} {zs : List Int} {X : XT C (lvF 9 [envLaw nm L fa cd]) (envLaw nm L fa cd)} {P : Fl → Loc → Sg → Prop} (g : Grd C sl (zs.map .int)) (hl : zs.length ≤ 63) {σ : Sg} {loc : Loc} (h0 : loc "script" = some (.ref sl)) (hf : loc "fault" = none)
    (h : ∀ a loc σ ki T c ns, StA σ a loc ki T c ns [] → WS C (lvF 9 [envLaw nm L fa cd]) (envLaw nm L fa cd) X (execs (bdLaw.drop 6) (envLaw nm L fa cd)) P loc σ) :
    WS C (lvF 9 [envLaw nm L fa cd]) (envLaw nm L fa cd) X (execs bdLaw (envLaw nm L fa cd)) P loc σ := by
  have H1 : ∀ (loc : Loc) (σ : Sg) (po nu : Addr) (ns : List Int), loc "pot" = some (.ref po) → loc "fault" = none → σ po = some (.list [.int 0, .ref nu]) → σ nu = some (.list (ns.map .int)) → ns ≠ [] → ns.length ≤ 1000 → po ≠ nu →
      WS C (lvF 9 [envLaw nm L fa cd]) (envLaw nm L fa cd) X (execs (bdLaw.drop 1) (envLaw nm L fa cd)) P loc σ := by
    intro loc σ po nu ns q1 q2 q3 q4 q5 q6 q7
    refine S_cons ?_
    repeat' w_up
    refine (symbols_ok hK).useF (by decide) fun y x hI_ => ?_
    refine xE6A1 hI_ fun bk bd tx an fu fn e1 M => ?_
    try clear hI_
    subst e1
    repeat' w_up
    rename_i co hco
    refine (areas_ok hK).useF (by decide) fun y s' hI_ => ?_
    refine Classical.byContradiction fun hG => ?_
    refine xE6A0 hI_ fun ar ad st sd hp sk hz1_ => ?_
    refine xE4A1 hz1_ fun tr xl ro ba e1 A => ?_
    clear hz1_ hI_
    refine hG ?_
    clear hG
    subst e1
    have M' : Made σ x bk bd tx an fu fn bk0.1 bk0.2 := M
    obtain ⟨a, e1, e2, e3, e4, W⟩ : ∃ a : Ads, a.ar = ar ∧ a.st = st ∧ a.bk = bk ∧ a.po = po ∧ Wd s' a 0 ns bk0.1 bk0.2 [] [cv (5, 0)] := ⟨_, rfl, rfl, rfl, rfl, wd_of q3 q4 q5 q6 q7 M' (Sub.fresh (Sub.refl _) hco) A⟩
    have a1_ := A.a1
    have a2_ := A.a2
    clear A M M' hco q3 q4 q5 q6 q7
    subst e1 e2 e3 e4
    have B := W.B
    have b1 := B.b1
    have b2 := B.b2
    repeat' w_up
    refine (func_ok hK W.B W.bka (by rw [bk_len.1]; decide)).useF (by decide) fun x t1 hI_ => ?_
    refine xE0A1 hI_ fun e1 e2 => ?_
    try clear hI_
    subst e1
    have W1 : Wd t1 a 0 ns bk1.1 bk1.2.1 [] [cv (5, 0)] := by rw [e2]; exact W.book bk_lt.1 bk_lt2.1
    clear e2
    have b1_1 := W1.B.b1
    have b2_1 := W1.B.b2
    repeat' w_up
    refine (func_ok hK W1.B W1.bka (by rw [bk_len.2.1]; decide)).useF (by decide) fun x t2 hI_ => ?_
    refine xE0A1 hI_ fun e1 e2 => ?_
    try clear hI_
    subst e1
    have W2 : Wd t2 a 0 ns bk2.1 bk2.2.1 [] [cv (5, 0)] := by rw [e2]; exact W1.book bk_lt.2.1 bk_lt2.2.1
    clear e2
    have b1_2 := W2.B.b1
    have b2_2 := W2.B.b2
    repeat' w_up
    refine (func_ok hK W2.B W2.bka (by rw [bk_len.2.2.1]; decide)).useF (by decide) fun x t3 hI_ => ?_
    refine xE0A1 hI_ fun e1 e2 => ?_
    try clear hI_
    subst e1
    have W3 : Wd t3 a 0 ns bk3.1 bk3.2.1 [] [cv (5, 0)] := by rw [e2]; exact W2.book bk_lt.2.2.1 bk_lt2.2.2.1
    clear e2
    have b1_3 := W3.B.b1
    have b2_3 := W3.B.b2
    repeat' w_up
    rename_i ki hki
    have hko := W3.out hki
    have W4 := W3.upd hko (.list [.int 0, .int 32, .int 33, .int 34])
    have ek : (AO.list [V.int 0, V.int ((bkFn bk0.1 bk0.2 "p" 1).2.2 : Nat), V.int ((bkFn bk1.1 bk1.2.1 "q" 2).2.2 : Nat), V.int ((bkFn bk2.1 bk2.2.1 "r" 3).2.2 : Nat)]) = .list [.int 0, .int 32, .int 33, .int 34] := by
      rw [show (bkFn bk0.1 bk0.2 "p" 1).2.2 = 32 from bk_num.1, show (bkFn bk1.1 bk1.2.1 "q" 2).2.2 = 33 from bk_num.2.1, show (bkFn bk2.1 bk2.2.1 "r" 3).2.2 = 34 from bk_num.2.2]; rfl
    rw [ek]
    have hk4 : (upd t3 ki (.list [.int 0, .int 32, .int 33, .int 34])) ki = some (.list [.int 0, .int 32, .int 33, .int 34]) := upd_same _ _ _
    generalize upd t3 ki (.list [.int 0, .int 32, .int 33, .int 34]) = t4 at W4 hk4 ⊢
    repeat' w_up
    refine (digit_ok hK (limit := 5) W4.p1 W4.p2 W4.hn W4.hl (by decide) (by decide) (W4.ne 0 1 (by decide)) W4.hc).useF (by decide) fun x t5 hI_ => ?_
    refine Classical.byContradiction fun hG => ?_
    refine xE2A3 hI_ fun d ns' e1 hd hl e2 => ?_
    try clear hI_
    refine hG ?_
    clear hG
    subst e1
    have W5 : Wd t5 a (0 + 1) ns' bk3.1 bk3.2.1 [] [cv (5, 0)] := by rw [e2]; exact W4.digit hl
    have hk5 : t5 ki = some (.list [.int 0, .int 32, .int 33, .int 34]) := by
      rw [e2]
      exact upd_look (neA hko 1 rfl) (upd_look (neA hko 0 rfl) hk4)
    refine Op_add ?_
    rw [show (1 : Int) + (d : Int) = ((1 + d : Nat) : Int) by (first | lia | omega)]
    refine h a _ _ ki (1 + d) (0 + 1) ns' ⟨W5, q1, rfl, rfl, rfl, rfl, setL_same _ _ _, ?_, hk5, hko, by (first | lia | omega), by (first | lia | omega)⟩
    repeat (first | exact q2 | refine setL_ne (by decide +kernel) ?_)
  refine S_seq (fun l s => ∃ po nu ns, l "pot" = some (.ref po) ∧ l "fault" = none ∧ s po = some (.list [.int 0, .ref nu]) ∧ s nu = some (.list (ns.map .int)) ∧ ns ≠ [] ∧ ns.length ≤ 1000 ∧ po ≠ nu) ?_ fun l s hq => by
    refine xE3A6 hq fun po nu ns q1 q2 q3 q4 q5 q6 q7 => ?_
    try clear hq
    exact H1 l s po nu ns q1 q2 q3 q4 q5 q6 q7
  repeat' w_up
  refine B_lenG g (by simp; (first | lia | omega)) ?_
  repeat' w_up
  · refine ⟨sl, zs.map .int, 20, rfl, g, by simp; (first | lia | omega), rfl, fun b hb => ?_⟩
    repeat' w_up
    refine T_list (upd_same _ _ _) (by simp; (first | lia | omega)) fun nu hnu => ?_
    repeat' w_up
    rename_i hz po hpo
    refine ⟨rfl, po, nu, zs.take 20, setL_same _ _ _, setL_ne (by decide +kernel) hf, upd_same _ _ _, ?_, ?_, by simp; (first | lia | omega), (upd_none hpo).1⟩
    · rw [List.map_take]; exact upd_look (Ne.symm (upd_none hpo).1) (upd_same _ _ _)
    · intro e
      cases zs with
      | nil => simp at hz
      | cons a l => simp at e
  · rename_i nu hnu po hpo
    exact ⟨rfl, po, nu, [0], setL_same _ _ _, setL_ne (by decide +kernel) hf, upd_same _ _ _, upd_look (Ne.symm (upd_none hpo).1) (upd_same _ _ _), by simp, by simp, (upd_none hpo).1⟩
end
end
section
theorem W_compCell {C : Cx} {R : Rm} {env : Env} {loc : Loc} {σ : Sg} {scope : Scope} {Cn : Addr} {x z : Str} {y v : V} {pos : Pos} {P : V → Sg → Prop} (hne : (z == x) = false) (h1 : (relabel scope env).names.lookup z = some .cell) (hz : loc z = some v) (h : P v σ)
    (hd : (z == ("__debug__" : Str)) = false := by decide) : WE C R (compEnvC scope (clOf scope env) Cn env) (setL (locF scope env loc) x y) (eval (.Name z pos) (compEnvC scope (clOf scope env) Cn env)) P σ :=
  W_Name (W_loadC (setL_ne hne (locF_cell h1 hz)) h1 h) hd
set_option hygiene false
set_option compiler.extract_closed false
local macro_rules | `(tactic| o_new) => `(tactic| first
  | with_reducible assumption | (with_reducible exact setL_same _ _ _) | (with_reducible refine setL_ne (by kernel_rfl!) ?_; o_new) | (refine locF_cell (by with_unfolding_all rfl) ?_; o_new) | (with_reducible exact locOf_hit (by kernel_rfl!)) | (with_reducible refine locOf_skip ?_; o_new) | rfl)
set_option hygiene true
set_option hygiene false
set_option compiler.extract_closed false
local macro_rules | `(tactic| w_up) => `(tactic| ((with_reducible show WG _ _ (compEnvC _ _ _ _) _ Rep (eval (.Name _ _) _) _ _); refine W_compCell (by decide +kernel) (by with_unfolding_all rfl) (by o_new) ?_))
set_option hygiene true

noncomputable def fkK (κ : Nat) : Int := if κ = 0 then 0 else 31 + (κ : Int)
theorem kinds_get (d : Nat) (h : d < 4) : [V.int 0, V.int 32, V.int 33, V.int 34][((d : Nat) : Int).toNat]? = some (.int (fkK d)) := by
  have : d = 0 ∨ d = 1 ∨ d = 2 ∨ d = 3 := by (first | lia | omega)
  rcases this with rfl | rfl | rfl | rfl <;> rfl
theorem map_range_upd {β γ : Type} (g : γ → β) (kd : Nat → γ) (d : γ) (i : Nat) : (List.range (i + 1)).map (fun j => g (if j = i then d else kd j)) = (List.range i).map (fun j => g (kd j)) ++ [g d] := by
  rw [List.range_succ, List.map_append]
  congr 1
  · refine List.map_congr_left fun q hq => ?_
    have := List.mem_range.mp hq
    rw [if_neg (by (first | lia | omega))]
  · simp
theorem map_range_succ {β : Type} (g : Nat → β) (i : Nat) : (List.range (i + 1)).map g = (List.range i).map g ++ [g i] := by
  rw [List.range_succ, List.map_append]; rfl
/-- what stands besides the world -/
noncomputable def Kept (σ τ : Sg) (a : Ads) : Prop := ∀ b o, σ b = some o → b ∉ a.all → τ b = some o
structure StB (σ : Sg) (a : Ads) (loc : Loc) (T : Nat) (kd : Nat → Nat) (c : Int) (ns : List Int) (cells : List Cell) (fo dr no rw_ tb : Addr) : Prop where
  W : Wd σ a c ns bk3.1 bk3.2.1 cells [cv (5, 0)]
  lp : loc "pot" = some (.ref a.po)
  lb : loc "book" = some (.ref a.bk)
  la : loc "areas" = some (.ref a.ar)
  ls : loc "store" = some (.ref a.st)
  lt : loc "total" = some (.int T)
  lf : loc "fault" = none
  l1 : loc "forms" = some (.ref fo)
  l2 : loc "doors" = some (.ref dr)
  l3 : loc "nodes" = some (.ref no)
  l4 : loc "rows" = some (.ref rw_)
  l5 : loc "table" = some (.ref tb)
  h1 : σ fo = some (.list ((List.range T).map fun j => .int (fkK (kd j))))
  h2 : σ dr = some (.list ((List.range T).map fun (j : Nat) => cv (0, (j : Int))))
  h3 : σ no = some (.list ((List.range T).map fun j => cv ((layF T kd).nd j)))
  h4 : σ rw_ = some (.list [])
  h5 : σ tb = some (.dictI (fun _ => none) 0)
  o1 : fo ∉ a.all
  o2 : dr ∉ a.all
  o3 : no ∉ a.all
  o4 : rw_ ∉ a.all
  o5 : tb ∉ a.all
  d1 : fo ≠ rw_ ∧ dr ≠ rw_ ∧ no ≠ rw_
  kd3 : ∀ j, kd j ≤ 3
  t1 : 1 ≤ T
  t5 : T ≤ 5
  H : HpB (layF T kd) T (spF T kd T) cells (fun i => (0, (i : Int))) (fun j p => (0, (((layF T kd).b j + p : Nat) : Int)))
theorem Kept.digit {σ τ : Sg} {a : Ads} (h : Kept σ τ a) {x y : AO} : Kept σ (upd (upd τ a.po x) a.nu y) a := fun b o e hb =>
  upd_look (neA hb 1 rfl) (upd_look (neA hb 0 rfl) (h b o e hb))
theorem Kept.heap {σ τ : Sg} {a : Ads} (h : Kept σ τ a) {x : AO} : Kept σ (upd τ a.hp x) a := fun b o e hb =>
  upd_look (neA hb 12 rfl) (h b o e hb)
section
variable {C : Cx} (hK : C.K = KK C.w.params) {R : Rm} {nm : Str} {L fa : Addr} {cd : Value}
include hK
theorem lawB {X : XT C (lvF 9 [envLaw nm L fa cd]) (envLaw nm L fa cd)} {P : Fl → Loc → Sg → Prop} {σ : Sg} {a : Ads} {loc : Loc} {ki : Addr} {T : Nat} {c : Int} {ns : List Int} (A : StA σ a loc ki T c ns [])
    (h : ∀ loc σ kd c ns cells fo dr no rw_ tb, StB σ a loc T kd c ns cells fo dr no rw_ tb → WS C (lvF 9 [envLaw nm L fa cd]) (envLaw nm L fa cd) X (execs (bdLaw.drop 11) (envLaw nm L fa cd)) P loc σ) :
    WS C (lvF 9 [envLaw nm L fa cd]) (envLaw nm L fa cd) X (execs (bdLaw.drop 6) (envLaw nm L fa cd)) P loc σ := by
  have t1 := A.t1
  have t5 := A.t5
  have lp := A.lp
  have lk := A.lk
  have lt := A.lt
  have ls := A.ls
  have en : ((T : Nat) : Int).toNat = T := Int.toNat_natCast _
  refine S_cons ?_
  refine S_AssignComp (by rfl) (.inl (by o_inst)) (by rfl) ?_
  refine I_range1 (by w_side) PyProof.Rows.boot_range (by decide) (by o_inst) ?_
  repeat' w_up
  refine ⟨_, rfl, by (first | lia | omega), by (first | lia | omega), by rw [steps_length]; (first | lia | omega), fun i acc s => ∃ (kd : Nat → Nat) (c : Int) (ns : List Int), (∀ j, kd j ≤ 3) ∧ acc = (List.range i).map (fun j => V.int (fkK (kd j))) ∧ Wd s a c ns bk3.1 bk3.2.1 [] [cv (5, 0)] ∧ Kept σ s a,
    ⟨fun _ => 0, c, ns, fun _ => Nat.zero_le _, rfl, A.W, fun _ _ e _ => e⟩, fun i acc s hh => ⟨trivial, ?_⟩, ?_, ?_⟩
  · refine xE3A2 hh fun kd c ns _ hr1_ _ => ?_
    try clear hh
    obtain rfl := hr1_
    simp
  · intro Cn i y acc s hy hI_
    refine xE3A3 hI_ fun kd c ns hkd hacc W hkp => ?_
    try clear hI_
    refine xE0A1 (steps_01 _ hy) fun hi hr2_ => ?_
    obtain rfl := hr2_
    have hki := hkp _ _ A.k A.ko
    unfold WT
    simp only [if_true]
    repeat' w_up
    refine (digit_ok hK (limit := 4) W.p1 W.p2 W.hn W.hl (by decide) (by decide) (W.ne 0 1 (by decide)) W.hc).useF (by decide) fun x t hI_ => ?_
    refine xE2A3 hI_ fun d ns' e1 hd hl e2 => ?_
    try clear hI_
    subst e1 e2
    refine O_sub_list (hkp.digit _ _ A.k A.ko) (by (first | lia | omega)) (by (first | lia | omega)) (kinds_get d hd) ?_
    refine ⟨fun j => if j = i then d else kd j, _, ns', fun j => by
      show (if j = i then d else kd j) ≤ 3
      split
      · (first | lia | omega)
      · exact hkd j, ?_, W.digit hl, hkp.digit⟩
    rw [hacc]; exact (map_range_upd (fun κ => V.int (fkK κ)) kd d i).symm
  intro acc s hI_ fo hfo
  refine xE3A3 hI_ fun kd c ns hkd hacc W hkp => ?_
  try clear hI_
  rw [steps_length, en] at hacc
  subst hacc
  have o1 := W.out hfo
  have W1 := W.upd o1 (.list ((List.range T).map fun j => V.int (fkK (kd j))))
  have h1 := upd_same s fo (.list ((List.range T).map fun j => V.int (fkK (kd j))))
  clear hkp W
  generalize upd s fo (.list ((List.range T).map fun j => V.int (fkK (kd j)))) = s1 at W1 h1 ⊢
  clear hfo s
  -- doors
  refine S_cons ?_
  refine S_AssignComp (by rfl) (.inl (by o_inst)) (by rfl) ?_
  refine I_range1 (by w_side) PyProof.Rows.boot_range (by decide) (by o_inst) ?_
  repeat' w_up
  refine ⟨_, rfl, by (first | lia | omega), by (first | lia | omega), by rw [steps_length, en]; (first | lia | omega), fun i acc s => acc = (List.range i).map (fun (j : Nat) => cv (0, (j : Int))) ∧ Wd s a c ns bk3.1 bk3.2.1 ((List.range i).map fun (j : Nat) => (0, (j : Int))) [cv (5, 0)] ∧ Kept s1 s a ∧ i ≤ T,
    ⟨rfl, W1, fun _ _ e _ => e, Nat.zero_le _⟩, fun i acc s hh => ⟨trivial, ?_⟩, ?_, ?_⟩
  · refine xE0A1 hh fun hr3_ _ => ?_
    try clear hh
    obtain rfl := hr3_
    simp
  · intro Cn i y acc s hy hI_
    refine xE0A3 hI_ fun hacc W hkp hiT => ?_
    try clear hI_
    refine xE0A1 (steps_01 _ hy) fun hi hr4_ => ?_
    obtain rfl := hr4_
    rw [en] at hi
    have s1' := W.S.h1
    have s2' := W.S.h2
    have hlen : ((List.range i).map fun (j : Nat) => ((0, (j : Int)) : Cell)).length = i := by simp
    unfold WT
    simp only [if_true]
    repeat' w_up
    refine (new_var_ok hK W.S (by rw [hlen]; (first | lia | omega))).useFV (by decide) ?_
    refine ⟨?_, ?_, hkp.heap, by (first | lia | omega)⟩
    · rw [hacc, map_range_succ, hlen]
    · rw [map_range_succ, hlen]; exact W.heap (by rw [List.length_append, hlen]; simp; (first | lia | omega))
  intro acc s hI_ dr hdr
  refine xE0A3 hI_ fun hacc W hkp _ => ?_
  try clear hI_
  rw [steps_length, en] at hacc W
  subst hacc
  have h1' := hkp _ _ h1 o1
  have o2 := W.out hdr
  have W2 := W.upd o2 (.list ((List.range T).map fun (j : Nat) => cv (0, (j : Int))))
  have h2 := upd_same s dr (.list ((List.range T).map fun (j : Nat) => cv (0, (j : Int))))
  have h1 := upd_look (o' := .list ((List.range T).map fun (j : Nat) => cv (0, (j : Int)))) (ne_fresh hdr h1') h1'
  clear hkp W h1'
  generalize upd s dr (.list ((List.range T).map fun (j : Nat) => cv (0, (j : Int)))) = s2 at W2 h1 h2 ⊢
  clear hdr s
  -- nodes
  refine S_cons ?_
  refine S_AssignComp (by rfl) (.inl (by o_inst)) (by rfl) ?_
  refine I_list ?_
  w_up
  have H0 : HpB (layF T kd) 0 (spF T kd 0) ((List.range T).map fun (j : Nat) => (0, (j : Int))) (fun i => (0, (i : Int))) (fun j p => (0, (((layF T kd).b j + p : Nat) : Int))) :=
    ⟨by simp; rfl, fun i hi => by rw [List.getElem?_map, List.getElem?_range (show i < T from hi)]; rfl, fun j hj => absurd hj (Nat.not_lt_zero _), fun j p hj => absurd hj (Nat.not_lt_zero _)⟩
  refine ⟨fo, _, rfl, h1, by simp; (first | lia | omega), fun i acc s => acc = (List.range i).map (fun j => cv ((layF T kd).nd j)) ∧ (∃ cells, Wd s a c ns bk3.1 bk3.2.1 cells [cv (5, 0)] ∧ HpB (layF T kd) i (spF T kd i) cells (fun i => (0, (i : Int))) (fun j p => (0, (((layF T kd).b j + p : Nat) : Int)))) ∧ Kept s2 s a ∧ i ≤ T,
    ⟨rfl, ⟨_, W2, H0⟩, fun _ _ e _ => e, Nat.zero_le _⟩, fun i acc s hh => ⟨?_, ?_⟩, ?_, ?_⟩
  · exact hh.2.2.1 _ _ h1 o1
  · refine xE0A1 hh fun hr5_ _ => ?_
    try clear hh
    obtain rfl := hr5_
    simp
  · intro Cn i y acc s hy hI_
    refine Classical.byContradiction fun hG => ?_
    refine xE0A3 hI_ fun hacc hr6_ hkp hiT => ?_
    try clear hI_
    refine xE1A1 hr6_ fun cells W H => ?_
    try clear hr6_
    refine hG ?_
    clear hG
    have hi : i < T := by
      have := (List.getElem?_eq_some_iff.mp hy).1
      simpa using this
    rw [List.getElem?_map, List.getElem?_range hi] at hy
    cases hy
    have s1' := W.S.h1
    have s2' := W.S.h2
    have hbd := spF_bound (T := T) (kd := kd) (fun j _ => hkd j) i (by (first | lia | omega))
    have hlen := H.len
    unfold WT
    simp only [if_true]
    repeat' w_up
    have hszl : (cells ++ blockOf (kd i) (spF T kd i)).length < 2000 := by rw [List.length_append, blockOf_len, hlen]; have := szK_le (hkd i); (first | lia | omega)
    by_cases h0 : kd i = 0
    · have en : (layF T kd).nd i = (3, (spF T kd i : Int)) := by show (if kd i = 0 then _ else _) = _; rw [if_pos h0]; rfl
      have eb : blockOf (kd i) (spF T kd i) = vars cells.length 2 := by unfold blockOf; rw [if_pos h0, hlen]; rfl
      rw [show fkK (kd i) = 0 by unfold fkK; rw [if_pos h0]]
      refine (new_block_lis hK W.S (by (first | lia | omega))).useFV (by decide) ?_
      refine ⟨?_, ⟨_, ?_, H.block⟩, hkp.heap, by (first | lia | omega)⟩
      · rw [hacc, map_range_succ, en, hlen]
      · rw [eb] at hszl ⊢; exact W.heap hszl
    · have en : (layF T kd).nd i = (2, (spF T kd i : Int)) := by show (if kd i = 0 then _ else _) = _; rw [if_neg h0]; rfl
      have eb : blockOf (kd i) (spF T kd i) = (6, ((31 + kd i : Nat) : Int)) :: vars (cells.length + 1) (kd i) := by unfold blockOf; rw [if_neg h0, hlen]; rfl
      refine xE1A0 (fs_ok3 (kd i) (by (first | lia | omega)) (hkd i)) fun at_ hat => ?_
      rw [show fkK (kd i) = ((31 + kd i : Nat) : Int) by unfold fkK; rw [if_neg h0]; (first | lia | omega)]
      refine (new_block_str hK (f := (0, ((31 + kd i : Nat) : Int))) (p := (at_, (kd i : Int))) (w := kd i) W.S W.boo (by have := hkd i; (first | lia | omega)) (by show (0 : Int) < ((31 + kd i : Nat) : Int); (first | lia | omega)) (by show bk3.2.1[((31 + kd i : Nat) : Int).toNat]? = _; rw [Int.toNat_natCast]; exact hat) rfl).useFV (by decide) ?_
      refine ⟨?_, ⟨_, ?_, H.block⟩, hkp.heap, by (first | lia | omega)⟩
      · rw [hacc, map_range_succ, en, hlen]
      · rw [eb] at hszl ⊢; exact W.heap hszl
  intro acc s hI_ no hno
  refine Classical.byContradiction fun hG => ?_
  refine xE0A3 hI_ fun hacc hr7_ hkp _ => ?_
  try clear hI_
  refine xE1A1 hr7_ fun cells W H => ?_
  try clear hr7_
  refine hG ?_
  clear hG
  rw [List.length_map, List.length_range] at hacc H
  subst hacc
  have h1' := hkp _ _ h1 o1
  have h2' := hkp _ _ h2 o2
  have o3 := W.out hno
  have W3 := W.upd o3 (.list ((List.range T).map fun j => cv ((layF T kd).nd j)))
  have h3 := upd_same s no (.list ((List.range T).map fun j => cv ((layF T kd).nd j)))
  have h1 := upd_look (o' := .list ((List.range T).map fun j => cv ((layF T kd).nd j))) (ne_fresh hno h1') h1'
  have h2 := upd_look (o' := .list ((List.range T).map fun j => cv ((layF T kd).nd j))) (ne_fresh hno h2') h2'
  clear hkp W h1' h2'
  generalize upd s no (.list ((List.range T).map fun j => cv ((layF T kd).nd j))) = s3 at W3 h1 h2 h3 ⊢
  clear hno s
  refine S_cons ?_
  repeat' w_up
  rename_i rw_ hrw
  refine W_Dict (.dictI (fun _ => none) 0) ⟨rfl, rfl⟩ fun tb htb => ?_
  have hq := upd_none htb
  have o4 := W3.out hrw
  have W4 := W3.upd o4 (.list [])
  have o5 := W4.out htb
  have W5 := W4.upd o5 (.dictI (fun _ => none) 0)
  have N : ∀ {b o}, s3 b = some o → (upd (upd s3 rw_ (.list [])) tb (.dictI (fun _ => none) 0)) b = some o := fun e => upd_look (ne_fresh hq.2 e) (upd_look (ne_fresh hrw e) e)
  refine h _ _ kd c ns cells fo dr no rw_ tb ⟨W5, ?_, ?_, ?_, ?_, ?_, ?_, ?_, ?_, ?_, ?_, ?_, N h1, N h2, N h3, upd_look (Ne.symm hq.1) (upd_same _ _ _), upd_same _ _ _, o1, o2, o3, o4, o5, ⟨ne_fresh hrw h1, ne_fresh hrw h2, ne_fresh hrw h3⟩, hkd, t1, t5, H⟩
  all_goals first | exact setL_same _ _ _ | skip
  all_goals repeat (first | exact A.lp | exact A.lb | exact A.la | exact A.ls | exact A.lt | exact A.lf | exact setL_same _ _ _ | refine setL_ne (by decide +kernel) ?_)
end

theorem HpB.congr {l : Lay} {n N : Nat} {cells : List Cell} {dv dv' : Nat → Cell} {av av' : Nat → Nat → Cell} (h : HpB l n N cells dv av) (h1 : ∀ i, i < l.T → dv i = dv' i) (h2 : ∀ j p, j < n → p < l.w j → av j p = av' j p) : HpB l n N cells dv' av' :=
  ⟨h.len, fun i hi => by rw [← h1 i hi]; exact h.door i hi, h.head, fun j p hj hp => by rw [← h2 j p hj hp]; exact h.args j p hj hp⟩
noncomputable def rowL (l : Lay) (ec : Nat → Nat → Nat) (j : Nat) : List Int := (List.range (l.w j)).map fun p => edR l (ec j p) j p
/-- the rows of the edges, up to k -/
structure RwI (σ₀ σ : Sg) (a : Ads) (l : Lay) (k : Nat) (ec : Nat → Nat → Nat) (rowA : Nat → Addr) (rw_ tb : Addr) (tf : Int → Option V) (n : Nat) (c : Int) (ns : List Int) (cells : List Cell) : Prop where
  W : Wd σ a c ns bk3.1 bk3.2.1 cells [cv (5, 0)]
  H : HpB l l.T (spF l.T l.kd l.T) cells (fun i => (0, (i : Int))) (fun j p => if j < k then edC l (ec j p) j p else (0, ((l.b j + p : Nat) : Int)))
  e : ∀ j p, ec j p < 2 * l.T + 3
  r : σ rw_ = some (.list ((List.range k).map fun j => .ref (rowA j)))
  rr : ∀ j, j < k → σ (rowA j) = some (.list ((rowL l ec j).map .int)) ∧ rowA j ∉ a.all ∧ rowA j ≠ rw_ ∧ rowA j ≠ tb
  t : σ tb = some (.dictI tf n)
  n : n ≤ 3 * k
  tt : ∀ j p, j < k → p < l.w j → 2 * l.T + 2 ≤ ec j p → tf ((l.b j + p : Nat) : Int) = some (.int (10 * (j : Int) + p))
  o : ∀ b o, σ₀ b = some o → b ∉ a.all → b ≠ tb → b ≠ rw_ → σ b = some o
theorem w_le3 {T : Nat} {kd : Nat → Nat} (h : ∀ j, kd j ≤ 3) (j : Nat) : (layF T kd).w j ≤ 3 := by
  have := h j
  show wdK (kd j) ≤ 3
  unfold wdK; split <;> (first | lia | omega)
section
variable {C : Cx} (hK : C.K = KK C.w.params) {R : Rm} {nm : Str} {L fa : Addr} {cd : Value}
include hK
theorem lawC1 {X : XT C (lvF 9 [envLaw nm L fa cd]) (envLaw nm L fa cd)} {P : Fl → Loc → Sg → Prop} {σ : Sg} {a : Ads} {loc : Loc} {T : Nat} {kd : Nat → Nat} {c : Int} {ns : List Int} {cells : List Cell} {fo dr no rw_ tb : Addr} (B : StB σ a loc T kd c ns cells fo dr no rw_ tb)
    (h : ∀ loc' σ' ec rowA tf n c ns cells, (∀ z v, loc z = some v → (z == ("k" : Str)) = false → loc' z = some v) → loc' "fault" = none → RwI σ σ' a (layF T kd) T ec rowA rw_ tb tf n c ns cells → WS C (lvF 9 [envLaw nm L fa cd]) (envLaw nm L fa cd) X (execs (bdLaw.drop 12) (envLaw nm L fa cd)) P loc' σ') :
    WS C (lvF 9 [envLaw nm L fa cd]) (envLaw nm L fa cd) X (execs (bdLaw.drop 11) (envLaw nm L fa cd)) P loc σ := by
  have en : ((T : Nat) : Int).toNat = T := Int.toNat_natCast _
  have LO := layF_ok B.t1 B.t5 (fun j _ => B.kd3 j) T
  have hbd := spF_bound (T := T) (kd := kd) (fun j _ => B.kd3 j) T (Nat.le_refl _)
  have t5 := B.t5
  have lp := B.lp
  have la := B.la
  have lt := B.lt
  have l2 := B.l2
  have l3 := B.l3
  have l4 := B.l4
  have l5 := B.l5
  refine S_cons ?_
  refine S_For (.inl (by o_inst)) (I_range1 (by w_side) PyProof.Rows.boot_range (by decide) (by o_inst) ?_)
  repeat' w_up
  refine ⟨_, rfl, by (first | lia | omega), by (first | lia | omega), fun k l' s => (∀ z v, loc z = some v → (z == ("k" : Str)) = false → l' z = some v) ∧ l' "fault" = none ∧ ∃ ec rowA tf n c ns cells, RwI σ s a (layF T kd) k ec rowA rw_ tb tf n c ns cells,
    ⟨fun _ _ h _ => h, B.lf, fun _ _ => 0, fun _ => 0, _, 0, c, ns, cells, ⟨B.W, B.H.congr (fun _ _ => rfl) (fun j p _ _ => by rw [if_neg (Nat.not_lt_zero _)]), fun _ _ => by have := B.t1; (first | lia | omega), B.h4, fun j hj => absurd hj (Nat.not_lt_zero _), B.h5, Nat.le_refl _, fun j p hj => absurd hj (Nat.not_lt_zero _), fun _ _ e _ _ _ => e⟩⟩, fun _ _ _ _ => trivial, ?_, ?_⟩
  · intro J jJ k y l' s hy hI_
    refine Classical.byContradiction fun hG => ?_
    refine xE0A2 hI_ fun hl hf hz1_ => ?_
    try clear hI_
    refine xE6A0 hz1_ fun ec rowA tf n c ns hz8_ => ?_
    refine xE1A0 hz8_ fun cells I => ?_
    clear hz8_
    refine hG ?_
    clear hG
    refine xE0A1 (steps_01 _ hy) fun hk hr2_ => ?_
    obtain rfl := hr2_
    rw [en] at hk
    have lp' := hl _ _ lp (by decide +kernel)
    have la' := hl _ _ la (by decide +kernel)
    have l2' := hl _ _ l2 (by decide +kernel)
    have l3' := hl _ _ l3 (by decide +kernel)
    have l4' := hl _ _ l4 (by decide +kernel)
    have l5' := hl _ _ l5 (by decide +kernel)
    have hr := I.r
    repeat' w_up
    have hne1 : rw_ ≠ tb := two_ne hr I.t (fun h => by cases h)
    have no_ := I.o _ _ B.h3 B.o3 (two_ne B.h3 B.h5 (fun h => by cases h)) B.d1.2.2
    have dr_ := I.o _ _ B.h2 B.o2 (two_ne B.h2 B.h5 (fun h => by cases h)) B.d1.2.1
    have hw := w_le3 B.kd3 k (T := T)
    have hn3 := I.n
    refine (edges_ok hK (l := layF T kd) (N := spF T kd T) (k := k) I.W LO (by (first | lia | omega)) hk I.H (fun p hp => by rw [if_neg (Nat.lt_irrefl _)]) fs_ok3 no_ dr_ I.t (by (first | lia | omega)) B.o3 B.o2 B.o5).useF (by decide) fun x s' hI_ => ?_
    refine Classical.byContradiction fun hG => ?_
    refine xE6A0 hI_ fun ro ec' tf' n' c' ns' hz7_ => ?_
    refine xE1A2 hz7_ fun cells' e1 hro E => ?_
    clear hz7_ hI_
    refine hG ?_
    clear hG
    subst e1
    have ro0 := I.W.out hro
    have hr' := E.o _ _ hr B.o4 hne1
    repeat' w_up
    have rneb : ∀ {b o}, s b = some o → ro ≠ b := fun e => Ne.symm (ne_fresh hro e)
    have ht0 := I.t
    refine jJ ⟨fun z v hz hn => by rw [setL_ne hn (hl z v hz hn)], setL_ne (by decide +kernel) hf, fun j p => if j = k then ec' p else ec j p, fun j => if j = k then ro else rowA j, tf', n', c', ns', cells', ⟨E.W.upd B.o4 _, E.H.congr (fun _ _ => rfl) fun j p hj hp => ?_, fun j p => ?_, ?_, fun j hj => ?_, upd_look (Ne.symm hne1) E.t, by have := E.n; (first | lia | omega), fun j p hj hp h2 => ?_, fun b o e h1 h2 h3 => upd_look h3 (E.o _ _ (I.o b o e h1 h2 h3) h1 h2)⟩⟩
    · by_cases q : j = k
      · subst q
        rw [if_pos ⟨rfl, hp⟩, if_pos (Nat.lt_succ_self _), if_pos rfl]
      · rw [if_neg (fun z => q z.1), if_neg q]
        by_cases q2 : j < k
        · rw [if_pos q2, if_pos (by (first | lia | omega))]
        · rw [if_neg q2, if_neg (by (first | lia | omega))]
    · show (if j = k then ec' p else ec j p) < _
      split
      · exact E.e p
      · exact I.e j p
    · rw [upd_same, map_range_upd (fun r => V.ref r) rowA ro k]
    · by_cases q : j = k
      · subst q
        have hrne : ro ≠ rw_ := rneb hr
        refine ⟨?_, by rw [if_pos rfl]; exact ro0, by rw [if_pos rfl]; exact hrne, by rw [if_pos rfl]; exact rneb ht0⟩
        rw [if_pos rfl, upd_ne _ _ hrne, E.r]
        congr 2
        unfold rowL
        rw [List.map_map]
        refine List.map_congr_left fun p _ => ?_
        show _ = V.int (edR _ (if j = j then ec' p else ec j p) j p)
        rw [if_pos rfl]
      · refine xE0A3 (I.rr j (by (first | lia | omega))) fun r1 r2 r3 r4 => ?_
        rw [if_neg q]
        refine ⟨?_, r2, r3, r4⟩
        rw [upd_ne _ _ r3, E.o _ _ r1 r2 r4]
        congr 3
        unfold rowL
        refine List.map_congr_left fun p _ => ?_
        show _ = edR _ (if j = k then ec' p else ec j p) j p
        rw [if_neg q]
    · have h2' : 2 * (layF T kd).T + 2 ≤ if j = k then ec' p else ec j p := h2
      by_cases q : j = k
      · subst q
        rw [if_pos rfl] at h2'
        exact E.t2 p hp h2'
      · rw [if_neg q] at h2'
        refine E.t1 _ _ (I.tt j p (by (first | lia | omega)) hp h2') fun r hr e => ?_
        refine xE0A1 (Lay.apart LO (show j < T by (first | lia | omega)) hk hp hr (by (first | lia | omega))) fun z _ => ?_
        exact q z
  · intro l' s hI_
    refine Classical.byContradiction fun hG => ?_
    refine xE0A2 hI_ fun hl hf hz3_ => ?_
    try clear hI_
    refine xE6A0 hz3_ fun ec rowA tf n c ns hz8_ => ?_
    refine xE1A0 hz8_ fun cells I => ?_
    clear hz8_
    refine hG ?_
    clear hG
    rw [steps_length, en] at I
    exact h l' s ec rowA tf n c ns cells hl hf I
/-- the heap stands, the root is chosen -/
structure StC (σ : Sg) (a : Ads) (loc : Loc) (T : Nat) (kd : Nat → Nat) (ec : Nat → Nat → Nat) (rowA : Nat → Addr) (root : Nat) (tf : Int → Option V) (n : Nat) (c : Int) (ns : List Int) (cells : List Cell) (fo dr rw_ tb : Addr) : Prop where
  W : Wd σ a c ns bk3.1 bk3.2.1 cells [cv (5, 0), cv (0, (root : Int))]
  H : HpB (layF T kd) T (spF T kd T) cells (fun i => (layF T kd).nd i) (fun j p => edC (layF T kd) (ec j p) j p)
  e : ∀ j p, ec j p < 2 * T + 3
  lb : loc "book" = some (.ref a.bk)
  la : loc "areas" = some (.ref a.ar)
  ls : loc "store" = some (.ref a.st)
  lt : loc "total" = some (.int T)
  lf : loc "fault" = none
  l1 : loc "forms" = some (.ref fo)
  l2 : loc "doors" = some (.ref dr)
  l4 : loc "rows" = some (.ref rw_)
  l5 : loc "table" = some (.ref tb)
  lr : loc "root" = some (.int root)
  h1 : σ fo = some (.list ((List.range T).map fun j => .int (fkK (kd j))))
  h2 : σ dr = some (.list ((List.range T).map fun (j : Nat) => cv (0, (j : Int))))
  h4 : σ rw_ = some (.list ((List.range T).map fun j => .ref (rowA j)))
  rr : ∀ j, j < T → σ (rowA j) = some (.list ((rowL (layF T kd) ec j).map .int)) ∧ rowA j ∉ a.all
  t : σ tb = some (.dictI tf n)
  tt : ∀ j p, j < T → p < (layF T kd).w j → 2 * T + 2 ≤ ec j p → tf (((layF T kd).b j + p : Nat) : Int) = some (.int (10 * (j : Int) + p))
  o1 : fo ∉ a.all
  o2 : dr ∉ a.all
  o4 : rw_ ∉ a.all
  o5 : tb ∉ a.all
  kd3 : ∀ j, kd j ≤ 3
  t1 : 1 ≤ T
  t5 : T ≤ 5
  rt : root < T
theorem lawC2 {X : XT C (lvF 9 [envLaw nm L fa cd]) (envLaw nm L fa cd)} {P : Fl → Loc → Sg → Prop} {σ₀ σ : Sg} {a : Ads} {loc loc' : Loc} {T : Nat} {kd : Nat → Nat} {c₀ c : Int} {ns₀ ns : List Int} {cells₀ cells : List Cell} {fo dr no rw_ tb : Addr} {ec : Nat → Nat → Nat} {rowA : Nat → Addr} {tf : Int → Option V} {n : Nat} (B : StB σ₀ a loc T kd c₀ ns₀ cells₀ fo dr no rw_ tb)
    (hl : ∀ z v, loc z = some v → (z == ("k" : Str)) = false → loc' z = some v) (hf : loc' "fault" = none) (I : RwI σ₀ σ a (layF T kd) T ec rowA rw_ tb tf n c ns cells)
    (h : ∀ loc σ root c ns cells, StC σ a loc T kd ec rowA root tf n c ns cells fo dr rw_ tb → WS C (lvF 9 [envLaw nm L fa cd]) (envLaw nm L fa cd) X (execs (bdLaw.drop 15) (envLaw nm L fa cd)) P loc σ) :
    WS C (lvF 9 [envLaw nm L fa cd]) (envLaw nm L fa cd) X (execs (bdLaw.drop 12) (envLaw nm L fa cd)) P loc' σ := by
  have en : ((T : Nat) : Int).toNat = T := Int.toNat_natCast _
  have gl : ∀ {α : Type} (f : Nat → α) (m i : Nat), i < m → ((List.range m).map f)[i]? = some (f i) := fun f m i hi => by rw [List.getElem?_map, List.getElem?_range hi]; rfl
  have LO := layF_ok B.t1 B.t5 (fun j _ => B.kd3 j) T
  have hbd := spF_bound (T := T) (kd := kd) (fun j _ => B.kd3 j) T (Nat.le_refl _)
  have hTN : T ≤ spF T kd T := spF_le T kd (Nat.zero_le T)
  have t5 := B.t5
  have t1 := B.t1
  have no_ := I.o _ _ B.h3 B.o3 (two_ne B.h3 B.h5 (fun h => by cases h)) B.d1.2.2
  have dr_ := I.o _ _ B.h2 B.o2 (two_ne B.h2 B.h5 (fun h => by cases h)) B.d1.2.1
  have fo_ := I.o _ _ B.h1 B.o1 (two_ne B.h1 B.h5 (fun h => by cases h)) B.d1.1
  have la' := hl _ _ B.la (by decide +kernel)
  have lt' := hl _ _ B.lt (by decide +kernel)
  refine S_cons ?_
  refine S_For (.inl (by o_inst)) (I_range1 (by w_side) PyProof.Rows.boot_range (by decide) (by o_inst) ?_)
  repeat' w_up
  refine ⟨_, rfl, by (first | lia | omega), by (first | lia | omega), fun k l' s => (∀ z v, loc z = some v → (z == ("k" : Str)) = false → l' z = some v) ∧ l' "fault" = none ∧ ∃ cells, Wd s a c ns bk3.1 bk3.2.1 cells [cv (5, 0)] ∧ HpB (layF T kd) T (spF T kd T) cells (fun i => if i < k then (layF T kd).nd i else (0, (i : Int))) (fun j p => edC (layF T kd) (ec j p) j p) ∧ Kept σ s a,
    ⟨hl, hf, cells, I.W, I.H.congr (fun _ _ => by rw [if_neg (Nat.not_lt_zero _)]) (fun j p hj _ => if_pos hj), fun _ _ e _ => e⟩, fun _ _ _ _ => trivial, ?_, ?_⟩
  · intro J jJ k y l' s hy hI_
    refine xE0A2 hI_ fun hl hf hz4_ => ?_
    try clear hI_
    refine xE1A2 hz4_ fun cells W H hkp => ?_
    clear hz4_
    refine xE0A1 (steps_01 _ hy) fun hk hr5_ => ?_
    obtain rfl := hr5_
    rw [en] at hk
    have la' := hl _ _ B.la (by decide +kernel)
    have l2' := hl _ _ B.l2 (by decide +kernel)
    have l3' := hl _ _ B.l3 (by decide +kernel)
    have no1 := hkp _ _ no_ B.o3
    have dr1 := hkp _ _ dr_ B.o2
    have a1 := W.a1
    have a2 := W.a2
    have hd := H.door k hk
    rw [if_neg (Nat.lt_irrefl _)] at hd
    have ht := nd_tag (layF T kd) k
    have hin : k < cells.length := (List.getElem?_eq_some_iff.mp hd).1
    repeat' w_up
    refine O_sub_list dr1 (by (first | lia | omega)) (by (first | lia | omega)) (x := cv (0, (k : Int))) (gl (fun (j : Nat) => cv (0, (j : Int))) _ _ (by simpa using hk)) ?_
    repeat' w_up
    refine O_sub_list no1 (by (first | lia | omega)) (by (first | lia | omega)) (gl _ _ _ (by simpa using hk)) ?_
    repeat' w_up
    rw [Int.toNat_natCast]
    refine (areas_unify_ok hK (c := (0, (k : Int))) (d := (layF T kd).nd k) a1 a2 W.S (.self rfl (by show (0 : Int) ≤ _; (first | lia | omega)) (by show cells[((k : Nat) : Int).toNat]? = _; rw [Int.toNat_natCast]; exact hd)) (.stop (by (first | lia | omega)) (by (first | lia | omega))) rfl (by show (0 : Int) ≤ _; (first | lia | omega)) (by show (k : Int) < _; (first | lia | omega)) (.inl (by (first | lia | omega)))).useF (by decide) fun x t ⟨e1, e2⟩ => ?_
    subst e1
    have hlen := W.S.len
    have W' : Wd t a c ns bk3.1 bk3.2.1 (cells.set k ((layF T kd).nd k)) [cv (5, 0)] := by rw [e2, Int.toNat_natCast]; exact W.heap (by rw [List.length_set]; exact hlen)
    have kp' : Kept σ t a := by rw [e2]; exact hkp.heap
    clear e2
    refine ⟨rfl, ?_⟩
    repeat' w_up
    refine jJ ⟨fun z v hz hn => by rw [setL_ne hn (hl z v hz hn)], setL_ne (by decide +kernel) hf, _, W', (H.setD LO hTN hk _).congr (fun i hi => ?_) (fun _ _ _ _ => rfl), kp'⟩
    by_cases q : i = k
    · subst q; rw [if_pos rfl, if_pos (Nat.lt_succ_self _)]
    · rw [if_neg q]
      by_cases q2 : i < k
      · rw [if_pos q2, if_pos (by (first | lia | omega))]
      · rw [if_neg q2, if_neg (by (first | lia | omega))]
  · intro l' s hI_
    refine xE0A2 hI_ fun hl hf hz6_ => ?_
    try clear hI_
    refine xE1A2 hz6_ fun cells W H hkp => ?_
    clear hz6_
    rw [steps_length, en] at H
    have lp' := hl _ _ B.lp (by decide +kernel)
    have la' := hl _ _ B.la (by decide +kernel)
    have l2' := hl _ _ B.l2 (by decide +kernel)
    have lt' := hl _ _ B.lt (by decide +kernel)
    repeat' w_up
    refine (digit_ok hK (limit := T) W.p1 W.p2 W.hn W.hl (by (first | lia | omega)) (by (first | lia | omega)) (W.ne 0 1 (by decide)) W.hc).useF (by decide) fun x t hI_ => ?_
    refine xE2A3 hI_ fun root ns' e1 hd hl' e2 => ?_
    try clear hI_
    subst e1
    have W2 : Wd t a (c + 1) ns' bk3.1 bk3.2.1 cells [cv (5, 0)] := by rw [e2]; exact W.digit hl'
    have kp2 : Kept σ t a := by rw [e2]; exact hkp.digit
    clear e2 W hkp
    have dr2 := kp2 _ _ dr_ B.o2
    have a1 := W2.a1
    have a2 := W2.a2
    repeat' w_up
    refine O_sub_list dr2 (by (first | lia | omega)) (by (first | lia | omega)) (x := cv (0, (root : Int))) (by rw [Int.toNat_natCast]; exact gl (fun (j : Nat) => cv (0, (j : Int))) _ _ hd) ?_
    repeat' w_up
    rename_i la hla
    have la0 := W2.out hla
    have W3 := W2.upd la0 (.list [cv (0, (root : Int))])
    have hlx : la ≠ a.xl := neA la0 15 rfl
    have kp3 : Kept σ (upd t la (.list [cv (0, (root : Int))])) a := fun b o e hb => upd_look (ne_fresh hla (kp2 b o e hb)) (kp2 b o e hb)
    refine (set_arguments_ok hK (c := (0, (root : Int))) W3.a1 W3.a2 W3.x (upd_same _ _ _) hlx).useF (by decide) fun x t2 ⟨e1, e2⟩ => ?_
    subst e1
    have W4 : Wd t2 a (c + 1) ns' bk3.1 bk3.2.1 cells [cv (5, 0), cv (0, (root : Int))] := by rw [e2]; exact W3.setx _
    have kp4 : Kept σ t2 a := by rw [e2]; exact fun b o e hb => upd_look (neA hb 15 rfl) (kp3 b o e hb)
    clear e2 W3 kp3 kp2 W2
    refine ⟨rfl, ?_⟩
    refine h _ t2 root (c + 1) ns' cells ⟨W4, H.congr (fun i hi => if_pos hi) (fun _ _ _ _ => rfl), I.e, setL_ne (by decide +kernel) (hl _ _ B.lb (by decide +kernel)), setL_ne (by decide +kernel) (hl _ _ B.la (by decide +kernel)), setL_ne (by decide +kernel) (hl _ _ B.ls (by decide +kernel)), setL_ne (by decide +kernel) lt', setL_ne (by decide +kernel) hf, setL_ne (by decide +kernel) (hl _ _ B.l1 (by decide +kernel)), setL_ne (by decide +kernel) l2',
      setL_ne (by decide +kernel) (hl _ _ B.l4 (by decide +kernel)), setL_ne (by decide +kernel) (hl _ _ B.l5 (by decide +kernel)), setL_same _ _ _, kp4 _ _ fo_ B.o1, kp4 _ _ dr_ B.o2, kp4 _ _ I.r B.o4, fun j hj => ⟨kp4 _ _ (I.rr j hj).1 (I.rr j hj).2.1, (I.rr j hj).2.1⟩, kp4 _ _ I.t B.o5, I.tt, B.o1, B.o2, B.o4, B.o5, B.kd3, t1, t5, hd⟩
end
theorem ints_are {h : Heap} {vals : List Value} {l : List Int} (r : Reps h vals (l.map .int)) : PyProof.Rows.IntsAre vals l := by
  induction l generalizing vals with
  | nil => cases r; exact .nil
  | cons a l ih =>
    cases r with
    | cons q r => cases q with
      | int n t => exact .cons _ t (ih r)
theorem B_min {C : Cx} {R : Rm} {env : Env} {loc : Loc} {σ : Sg} {a : Addr} {l : List Int} {P : V → Sg → Prop} (e : σ a = some (.list (l.map .int))) (hne : 0 < l.length) (h : ∀ M, M ∈ l → (∀ x, x ∈ l → M ≤ x) → P (.int M) σ) : CallB C R env loc "min" [.ref a] P σ := by
  intro vals A s Q E r at_ f hv k
  cases hv with | cons h1 h2 => cases h2; cases h1 with
  | ref =>
    refine xE2A1 (at_.list e) fun items n he hr => ?_
    have hi := ints_are hr
    refine xE1A0 hi.allInts.items fun xs ex => ?_
    have hns : l = xs.toList.map (·.1) := by rw [← hi.numsOf, ← nums_intItems, ← ex]
    have hsz : 0 < xs.size := by
      have h3 := hne; rw [hns, List.length_map, Array.length_toList] at h3; exact h3
    have ex' : items = intItems xs := by rw [← ex]
    rw [ex'] at he
    refine min_intList (R.handled A r) ⟨_, he, rfl, n, rfl⟩ hsz fun v h' tk hv hk => ?_
    refine xE1A0 (intItems_at hv) fun t hr1_ => ?_
    obtain rfl := hr1_
    refine xE0A1 (argBest_lt (numAt xs) (xs.size - 1)) fun h1 h2 => ?_
    refine k _ _ { s with heap := h', toks := tk } σ (.int _ _) (at_.grow hk) (Stp.grow Nil s σ tk hk) (h _ ?_ fun a ha => ?_)
    · rw [hns, numAt_eq]; exact getD_mem (by rw [List.length_map, Array.length_toList]; (first | lia | omega))
    · rw [hns] at ha
      refine xE1A1 (mem_getD ha) fun j hj hr2_ => ?_
      obtain rfl := hr2_
      rw [List.length_map, Array.length_toList] at hj
      rw [← numAt_eq]; exact h2 j (by (first | lia | omega))

/-- before, trees, closed -/
structure StD (σ : Sg) (a : Ads) (loc : Loc) (T : Nat) (kd : Nat → Nat) (ec : Nat → Nat → Nat) (root : Nat) (tf : Int → Option V) (n : Nat) (c : Int) (ns : List Int) (ts : List Str) (fs : List Cell) (cells : List Cell) (dr tb be tr : Addr) (tT : Int → Option V) (nT : Nat) (cl : Bool) : Prop where
  W : Wd σ a c ns ts fs cells [cv (5, 0), cv (0, (root : Int))]
  H : HpB (layF T kd) T (spF T kd T) cells (fun i => (layF T kd).nd i) (fun j p => edC (layF T kd) (ec j p) j p)
  e : ∀ j p, ec j p < 2 * T + 3
  lb : loc "book" = some (.ref a.bk)
  la : loc "areas" = some (.ref a.ar)
  ls : loc "store" = some (.ref a.st)
  lf : loc "fault" = none
  l2 : loc "doors" = some (.ref dr)
  l5 : loc "table" = some (.ref tb)
  lr : loc "root" = some (.int root)
  lbe : loc "before" = some (.ref be)
  ltr : loc "trees" = some (.ref tr)
  lcl : loc "closed" = some (.bool cl)
  h2 : σ dr = some (.list ((List.range T).map fun (j : Nat) => cv (0, (j : Int))))
  hbe : σ be = some (.list (cells.map cv))
  htr : σ tr = some (.dictI tT nT)
  t : σ tb = some (.dictI tf n)
  tt : ∀ j p, j < T → p < (layF T kd).w j → 2 * T + 2 ≤ ec j p → tf (((layF T kd).b j + p : Nat) : Int) = some (.int (10 * (j : Int) + p))
  o2 : dr ∉ a.all
  o5 : tb ∉ a.all
  obe : be ∉ a.all
  otr : tr ∉ a.all
  kd3 : ∀ j, kd j ≤ 3
  t1 : 1 ≤ T
  t5 : T ≤ 5
  rt : root < T
  U : UI ⟨T, fun j => rowL (layF T kd) ec j, fun j => fkK (kd j)⟩ tT
  Fu : Full ⟨T, fun j => rowL (layF T kd) ec j, fun j => fkK (kd j)⟩ tT
  cl : cl = true ↔ ∀ k, RR ⟨T, fun j => rowL (layF T kd) ec j, fun j => fkK (kd j)⟩ root k → ∀ e ∈ rowL (layF T kd) ec k, -2 ≤ e
theorem edR_lt {l : Lay} {c j p : Nat} (h : edR l c j p ≥ 0) : (edR l c j p).toNat < l.T := by
  unfold edR at h ⊢
  by_cases h1 : c < l.T
  · rw [if_pos h1, Int.toNat_natCast]; exact h1
  rw [if_neg h1] at h ⊢
  by_cases h2 : c < 2 * l.T
  · rw [if_pos h2, Int.toNat_natCast]; clear h; (first | lia | omega)
  rw [if_neg h2] at h ⊢
  clear h1 h2
  split at h
  · exact absurd h (by decide)
  split at h
  · exact absurd h (by decide)
  (first | lia | omega)
theorem rowOk {T : Nat} {kd : Nat → Nat} {ec : Nat → Nat → Nat} {fk : Nat → Int} : Rw.Ok ⟨T, fun j => rowL (layF T kd) ec j, fk⟩ := by
  intro k hk e he h0
  refine xE1A1 (List.mem_map.mp he) fun p _ hr3_ => ?_
  obtain rfl := hr3_
  exact edR_lt (l := layF T kd) h0
theorem rowL_len (l : Lay) (ec : Nat → Nat → Nat) (j : Nat) : (rowL l ec j).length = l.w j := by simp [rowL]
theorem w_pos {T : Nat} {kd : Nat → Nat} (j : Nat) : 0 < (layF T kd).w j := by
  show 0 < wdK (kd j)
  unfold wdK; split <;> (first | lia | omega)
section
variable {C : Cx} (hK : C.K = KK C.w.params) {R : Rm} {nm : Str} {L fa : Addr} {cd : Value}
include hK
theorem lawD1 {X : XT C (lvF 9 [envLaw nm L fa cd]) (envLaw nm L fa cd)} {P : Fl → Loc → Sg → Prop} {σ : Sg} {a : Ads} {loc : Loc} {T : Nat} {kd : Nat → Nat} {ec : Nat → Nat → Nat} {rowA : Nat → Addr} {root : Nat} {tf : Int → Option V} {n : Nat} {c : Int} {ns : List Int} {cells : List Cell} {fo dr rw_ tb : Addr} (B : StC σ a loc T kd ec rowA root tf n c ns cells fo dr rw_ tb)
    (h : ∀ loc σ be tr tT nT cl, StD σ a loc T kd ec root tf n c ns bk3.1 bk3.2.1 cells dr tb be tr tT nT cl → loc "forms" = some (.ref fo) → loc "rows" = some (.ref rw_) → loc "total" = some (.int T) → σ fo = some (.list ((List.range T).map fun j => .int (fkK (kd j)))) → σ rw_ = some (.list ((List.range T).map fun j => .ref (rowA j))) → (∀ j, j < T → σ (rowA j) = some (.list ((rowL (layF T kd) ec j).map .int))) → WS C (lvF 9 [envLaw nm L fa cd]) (envLaw nm L fa cd) X (execs (bdLaw.drop 18) (envLaw nm L fa cd)) P loc σ) :
    WS C (lvF 9 [envLaw nm L fa cd]) (envLaw nm L fa cd) X (execs (bdLaw.drop 15) (envLaw nm L fa cd)) P loc σ := by
  have gl : ∀ {α : Type} (f : Nat → α) (m i : Nat), i < m → ((List.range m).map f)[i]? = some (f i) := fun f m i hi => by rw [List.getElem?_map, List.getElem?_range hi]; rfl
  have t1 := B.t1
  have t5 := B.t5
  have ls := B.ls
  have l1 := B.l1
  have l4 := B.l4
  have lr := B.lr
  have s1' := B.W.S.h1
  have s2' := B.W.S.h2
  have hlen := B.W.S.len
  refine S_cons ?_
  repeat' w_up
  refine T_list B.W.S.h3 (by rw [List.length_map]; (first | lia | omega)) fun be hbe => ?_
  repeat' w_up
  have fo_ := upd_look (o' := .list (cells.map cv)) (ne_fresh hbe B.h1) B.h1
  have rw__ := upd_look (o' := .list (cells.map cv)) (ne_fresh hbe B.h4) B.h4
  have rr_ : ∀ j, j < T → (upd σ be (.list (cells.map cv))) (rowA j) = some (.list ((rowL (layF T kd) ec j).map .int)) := fun j hj => upd_look (ne_fresh hbe (B.rr j hj).1) (B.rr j hj).1
  refine (unfolded_ok hK (r := ⟨T, fun j => rowL (layF T kd) ec j, fun j => fkK (kd j)⟩) rowOk t5 t1 fo_ rw__ rr_ (fun k hk => by show (rowL _ _ _).length ≤ 3; rw [rowL_len]; exact w_le3 B.kd3 k)).useF (by decide) fun x t hI_ => ?_
  refine xE3A4 hI_ fun tr tT nT e1 htr e2 hU hF => ?_
  try clear hI_
  subst e1 e2
  have fo2 := upd_look (o' := .dictI tT nT) (ne_fresh htr fo_) fo_
  have rw2 := upd_look (o' := .dictI tT nT) (ne_fresh htr rw__) rw__
  have rr2 : ∀ j, j < T → (upd (upd σ be (.list (cells.map cv))) tr (.dictI tT nT)) (rowA j) = some (.list ((rowL (layF T kd) ec j).map .int)) := fun j hj => upd_look (ne_fresh htr (rr_ j hj)) (rr_ j hj)
  have hS : ∀ {b o}, σ b = some o → (upd (upd σ be (.list (cells.map cv))) tr (.dictI tT nT)) b = some o := fun e => upd_look (ne_fresh htr (upd_look (ne_fresh hbe e) e)) (upd_look (ne_fresh hbe e) e)
  have be2 := upd_look (o' := .dictI tT nT) (ne_fresh htr (upd_same σ be (.list (cells.map cv)))) (upd_same σ be (.list (cells.map cv)))
  have tr2 := upd_same (upd σ be (.list (cells.map cv))) tr (.dictI tT nT)
  have obe := B.W.out hbe
  have W1 := B.W.upd obe (.list (cells.map cv))
  have otr := W1.out htr
  have W2 := W1.upd otr (.dictI tT nT)
  generalize upd (upd σ be (.list (cells.map cv))) tr (.dictI tT nT) = s2 at fo2 rw2 rr2 hS be2 tr2 W2 ⊢
  clear fo_ rw__ rr_ W1 htr hbe
  refine S_cons ?_
  refine S_Assign (.inl (by o_inst)) ?_
  refine WG.less ?_
  refine W_Cmp ?_
  refine W_ListComp (by rfl) (I_list ?_)
  repeat' w_up
  refine (reached_ok hK (r := ⟨T, fun j => rowL (layF T kd) ec j, fun j => fkK (kd j)⟩) rowOk t5 B.rt rw2 rr2).useF (by decide) fun x t hI_ => ?_
  refine xE2A4 hI_ fun se S e1 hse e2 hS1 hFS => ?_
  try clear hI_
  subst e1 e2
  have rw3 := upd_look (o' := .list ((ofN S).map .int)) (ne_fresh hse rw2) rw2
  have rr3 : ∀ j, j < T → (upd s2 se (.list ((ofN S).map .int))) (rowA j) = some (.list ((rowL (layF T kd) ec j).map .int)) := fun j hj => upd_look (ne_fresh hse (rr2 j hj)) (rr2 j hj)
  have ltS : ∀ x ∈ S, x < T := fun x hx => (hS1.rr x hx).lt rowOk B.rt
  have lenS : S.length ≤ 5 := Nat.le_trans (nodup_lt T _ hS1.nd ltS) t5
  refine ⟨se, _, rfl, upd_same _ _ _, by simp [ofN]; (first | lia | omega), fun i acc s => s = upd s2 se (.list ((ofN S).map .int)) ∧ acc = (ofN ((S.take i).filter (fun k => decide (∃ e ∈ rowL (layF T kd) ec k, e < -2)))).map .int, ⟨rfl, rfl⟩, fun i acc s h => ⟨by rw [h.1]; exact upd_same _ _ _, by rw [h.2, List.length_map]; unfold ofN; rw [List.length_map]; exact Nat.le_trans (List.length_filter_le _ _) (by simp; (first | lia | omega))⟩, ?_, ?_⟩
  · intro Cn i y acc σ' hy hI_
    refine xE0A1 hI_ fun e1 e2 => ?_
    try clear hI_
    rw [List.getElem?_map] at hy
    refine xE1A1 (Option.map_eq_some_iff.mp hy) fun e he hr4_ => ?_
    obtain rfl := hr4_
    unfold ofN at he
    rw [List.getElem?_map] at he
    refine xE1A1 (Option.map_eq_some_iff.mp he) fun k ho hr5_ => ?_
    obtain rfl := hr5_
    subst e1
    have hk := ltS k (List.mem_of_getElem? ho)
    have et : S.take (i + 1) = S.take i ++ [k] := by rw [List.take_add_one, ho]; rfl
    have rk := rr3 k hk
    show WB _ _ _ _ (isTrue _ _ _) _ _
    refine W_testCmp ?_
    refine W_CallB (by w_side) PyProof.Rows.boot_min (by decide) (by o_inst) ?_
    refine W_cons ?_
    refine W_Sub ?_
    w_up
    w_up
    refine O_sub_list rw3 (by (first | lia | omega)) (by (first | lia | omega)) (gl _ _ _ (by simpa using hk)) ?_
    refine W_nil ?_
    rw [Int.toNat_natCast]
    refine B_min rk (by rw [rowL_len]; exact w_pos k) fun M hM hMle => ?_
    repeat' w_up
    · rename_i hlt
      refine ⟨rfl, ?_⟩
      rw [et, List.filter_append, e2]
      have : ∃ e ∈ rowL (layF T kd) ec k, e < -2 := ⟨M, hM, hlt⟩
      simp [ofN, this]
    · rename_i hlt
      refine ⟨rfl, ?_⟩
      rw [et, List.filter_append, e2]
      have : ¬ ∃ e ∈ rowL (layF T kd) ec k, e < -2 := fun ⟨e, he, hl⟩ => by have := hMle e he; (first | lia | omega)
      simp [ofN, this]
  · intro acc s hI_ b hb
    refine xE0A1 hI_ fun e1 e2 => ?_
    try clear hI_
    subst e1
    have hlS : ((ofN S).map V.int).length = S.length := by simp [ofN]
    rw [hlS, List.take_length] at e2
    repeat' w_up
    rename_i d hd
    refine Op_eqInts (m := []) (upd_look (ne_fresh hd (upd_same _ _ _)) (by rw [e2]; exact upd_same _ _ _)) (upd_same _ _ _) ⟨s2, ((((Sub.refl _).fresh hse).fresh hb).fresh hd), ?_⟩
    refine h _ _ be tr tT nT _ ⟨W2, B.H, B.e, ?_, ?_, ?_, ?_, ?_, ?_, ?_, ?_, ?_, setL_same _ _ _, hS B.h2, be2, tr2, hS B.t, B.tt, B.o2, B.o5, obe, otr, B.kd3, t1, t5, B.rt, hU, hF, ?_⟩ ?_ ?_ ?_ (hS B.h1) (hS B.h4) rr2
    case refine_10 =>
      constructor
      · intro hd k hk e he
        have hd' := of_decide_eq_true hd
        have h' : S.filter (fun k => decide (∃ e ∈ rowL (layF T kd) ec k, e < -2)) = [] := List.map_eq_nil_iff.mp hd'
        have h2 := List.filter_eq_nil_iff.mp h' k (hFS k hk)
        have h3 : ¬ ∃ e ∈ rowL (layF T kd) ec k, e < -2 := fun z => h2 (decide_eq_true z)
        refine Int.not_lt.mp fun z => h3 ⟨e, he, z⟩
      · intro hall
        refine decide_eq_true (List.map_eq_nil_iff.mpr (List.filter_eq_nil_iff.mpr fun k hk z => ?_))
        refine xE1A1 (of_decide_eq_true z) fun e he hl => ?_
        have := hall k (hS1.rr k hk) e he
        (first | lia | omega)
    all_goals repeat (first | exact setL_same _ _ _ | exact B.lb | exact B.la | exact B.ls | exact B.lf | exact B.l1 | exact B.l2 | exact B.l4 | exact B.l5 | exact B.lr | exact B.lt | refine setL_ne (by decide +kernel) ?_)
end

noncomputable def stepE (l : Lay) (ec : Nat → Nat → Nat) (e : Int) : Int := if e ≥ 0 ∧ l.kd e.toNat = 0 then edR l (ec e.toNat 1) e.toNat 1 else e
noncomputable def iterE (l : Lay) (ec : Nat → Nat → Nat) (root : Nat) : Nat → Int
  | 0 => root
  | n + 1 => stepE l ec (iterE l ec root n)
theorem iterE_lt {l : Lay} {ec : Nat → Nat → Nat} {root : Nat} (h : root < l.T) : ∀ n, iterE l ec root n ≥ 0 → (iterE l ec root n).toNat < l.T
  | 0, _ => by show ((root : Nat) : Int).toNat < _; (first | lia | omega)
  | n + 1, h0 => by
    have ih := iterE_lt (ec := ec) h n
    show (stepE l ec (iterE l ec root n)).toNat < _
    have h0' : stepE l ec (iterE l ec root n) ≥ 0 := h0
    unfold stepE at h0' ⊢
    split
    · rename_i q
      rw [if_pos q] at h0'
      exact edR_lt h0'
    · rename_i q
      rw [if_neg q] at h0'
      exact ih h0'
theorem fkK0 (κ : Nat) : fkK κ = 0 ↔ κ = 0 := by
  unfold fkK
  split
  · simp_all
  · constructor <;> intro h <;> (first | lia | omega)
theorem rowL_1 {l : Lay} {ec : Nat → Nat → Nat} {j : Nat} (h : l.kd j = 0) : (rowL l ec j)[1]? = some (edR l (ec j 1) j 1) := by
  unfold rowL
  have : 1 < l.w j := by show 1 < wdK (l.kd j); unfold wdK; rw [if_pos h]; decide
  rw [List.getElem?_map, List.getElem?_range this]; rfl
theorem func_num : (bkFn bk3.1 bk3.2.1 "resource_error" 1).2.2 = bk4.2.2 := rfl
theorem Kept.book {σ : Sg} {a : Ads} {ts : List Str} {fs : List Cell} : Kept σ (bkS σ a.tx a.an a.fu a.fn ts fs) a := fun b o e hb =>
  upd_look (neA hb 7 rfl) (upd_look (neA hb 6 rfl) (upd_look (neA hb 5 rfl) (upd_look (neA hb 4 rfl) e)))
theorem bk_len5 : bk5.1.length = 34 := by decide +kernel
section
variable {C : Cx} (hK : C.K = KK C.w.params) {R : Rm} {nm : Str} {L fa : Addr} {cd : Value}
include hK
theorem lawD2 {X : XT C (lvF 9 [envLaw nm L fa cd]) (envLaw nm L fa cd)} {P : Fl → Loc → Sg → Prop} {σ : Sg} {a : Ads} {loc : Loc} {T : Nat} {kd : Nat → Nat} {ec : Nat → Nat → Nat} {root : Nat} {tf : Int → Option V} {n : Nat} {c : Int} {ns : List Int} {cells : List Cell} {fo dr rw_ tb be tr : Addr} {rowA : Nat → Addr} {tT : Int → Option V} {nT : Nat} {cl : Bool} (B : StD σ a loc T kd ec root tf n c ns bk3.1 bk3.2.1 cells dr tb be tr tT nT cl)
    (lfo : loc "forms" = some (.ref fo)) (lrw : loc "rows" = some (.ref rw_)) (lt : loc "total" = some (.int T)) (hfo : σ fo = some (.list ((List.range T).map fun j => .int (fkK (kd j))))) (hrw : σ rw_ = some (.list ((List.range T).map fun j => .ref (rowA j)))) (hro : ∀ j, j < T → σ (rowA j) = some (.list ((rowL (layF T kd) ec j).map .int)))
    (h : ∀ loc σ, StD σ a loc T kd ec root tf n c ns bk5.1 bk4.2.1 cells dr tb be tr tT nT cl → loc "end" = some (.int (iterE (layF T kd) ec root T)) → loc "refused" = some (ballV bk4.2.2 bk5.2) → WS C (lvF 9 [envLaw nm L fa cd]) (envLaw nm L fa cd) X (execs (bdLaw.drop 21) (envLaw nm L fa cd)) P loc σ) :
    WS C (lvF 9 [envLaw nm L fa cd]) (envLaw nm L fa cd) X (execs (bdLaw.drop 18) (envLaw nm L fa cd)) P loc σ := by
  have gl : ∀ {α : Type} (f : Nat → α) (m i : Nat), i < m → ((List.range m).map f)[i]? = some (f i) := fun f m i hi => by rw [List.getElem?_map, List.getElem?_range hi]; rfl
  have en : ((T : Nat) : Int).toNat = T := Int.toNat_natCast _
  have t1 := B.t1
  have t5 := B.t5
  have lr := B.lr
  refine S_cons ?_
  repeat' w_up
  refine S_For (.inl (by o_inst)) (I_range1 (by w_side) PyProof.Rows.boot_range (by decide) (by o_inst) ?_)
  repeat' w_up
  refine ⟨_, rfl, by (first | lia | omega), by (first | lia | omega), fun k l' s => s = σ ∧ (∀ z v, loc z = some v → (z == ("_" : Str)) = false → (z == ("end" : Str)) = false → l' z = some v) ∧ l' "fault" = none ∧ l' "end" = some (.int (iterE (layF T kd) ec root k)),
    ⟨rfl, fun z v hz _ h2 => by rw [setL_ne h2 hz], setL_ne (by decide +kernel) B.lf, setL_same _ _ _⟩, fun _ _ _ _ => trivial, ?_, ?_⟩
  · intro J jJ k y l' s hy hI_
    refine Classical.byContradiction fun hG => ?_
    refine xE0A3 hI_ fun hr1_ hl hf he => ?_
    try clear hI_
    obtain rfl := hr1_
    refine hG ?_
    clear hG
    refine xE0A1 (steps_01 _ hy) fun hk hr2_ => ?_
    obtain rfl := hr2_
    have lfo' := hl _ _ lfo (by decide +kernel) (by decide +kernel)
    have lrw' := hl _ _ lrw (by decide +kernel) (by decide +kernel)
    have hlt := iterE_lt (l := layF T kd) (ec := ec) B.rt k
    have hs : iterE (layF T kd) ec root (k + 1) = stepE (layF T kd) ec (iterE (layF T kd) ec root k) := rfl
    generalize iterE (layF T kd) ec root k = e at he hlt hs
    have K1 : ∀ z v, loc z = some v → (z == ("_" : Str)) = false → (z == ("end" : Str)) = false → setL l' "_" (.int (k : Int)) z = some v := fun z v hz h1 h2 => by rw [setL_ne h1 (hl z v hz h1 h2)]
    repeat' w_up
    · rename_i h0
      have hlt' := hlt h0
      refine O_sub_list hfo (by (first | lia | omega)) (by show e < 1000000; have : e.toNat < T := hlt'; (first | lia | omega)) (gl _ _ _ hlt') ?_
      repeat' w_up
      · rename_i hz
        have hk0 : kd e.toNat = 0 := (fkK0 _).mp hz
        refine O_sub_list hrw (by (first | lia | omega)) (by show e < 1000000; have : e.toNat < T := hlt'; (first | lia | omega)) (gl _ _ _ hlt') ?_
        repeat' w_up
        refine O_sub_list (hro _ hlt') (by (first | lia | omega)) (by (first | lia | omega)) (x := .int (edR (layF T kd) (ec e.toNat 1) e.toNat 1)) (by show ((rowL (layF T kd) ec e.toNat).map V.int)[1]? = _; rw [List.getElem?_map, rowL_1 hk0]; rfl) ?_
        repeat' w_up
        refine jJ ⟨rfl, fun z v hz h1 h2 => by rw [setL_ne h2 (K1 z v hz h1 h2)], setL_ne (by decide +kernel) (setL_ne (by decide +kernel) hf), ?_⟩
        rw [hs]
        unfold stepE
        rw [if_pos ⟨h0, hk0⟩]
        exact setL_same _ _ _
      · rename_i hz
        have hk0 : ¬ kd e.toNat = 0 := fun q => hz ((fkK0 _).mpr q)
        refine jJ ⟨rfl, K1, setL_ne (by decide +kernel) hf, ?_⟩
        rw [hs]
        unfold stepE
        rw [if_neg (fun q => hk0 q.2)]
        exact setL_ne (by decide +kernel) he
    · rename_i h0
      refine jJ ⟨rfl, K1, setL_ne (by decide +kernel) hf, ?_⟩
      rw [hs]
      unfold stepE
      rw [if_neg (fun q => h0 q.1)]
      exact setL_ne (by decide +kernel) he
  · intro l' s hI_
    refine Classical.byContradiction fun hG => ?_
    refine xE0A3 hI_ fun hr3_ hl hf he => ?_
    try clear hI_
    obtain rfl := hr3_
    refine hG ?_
    clear hG
    rw [steps_length, en] at he
    have lb' := hl _ _ B.lb (by decide +kernel) (by decide +kernel)
    have b1 := B.W.B.b1
    have b2 := B.W.B.b2
    refine S_seq (fun l t => l = setL l' "refused" (ballV bk4.2.2 bk5.2) ∧ Wd t a c ns bk5.1 bk4.2.1 cells [cv (5, 0), cv (0, (root : Int))] ∧ Kept s t a) ?_ fun l t ⟨el, W2, K2⟩ => ?_
    · repeat' w_up
      refine (func_ok hK B.W.B B.W.bka (by rw [bk_len.2.2.2.1]; decide)).useF (by decide) fun x t1 hI_ => ?_
      refine xE0A1 hI_ fun e1 e2 => ?_
      try clear hI_
      subst e1
      have W1 : Wd t1 a c ns bk4.1 bk4.2.1 cells [cv (5, 0), cv (0, (root : Int))] := by rw [e2]; exact B.W.book bk_lt.2.2.2 bk_lt2.2.2.2
      have K1 : Kept s t1 a := by rw [e2]; exact Kept.book
      clear e2
      have b1' := W1.B.b1
      have b2' := W1.B.b2
      repeat' w_up
      refine (atom_ok hK W1.B W1.bka).useF (by decide) fun x t2 hI_ => ?_
      refine xE0A1 hI_ fun e1 e2 => ?_
      try clear hI_
      subst e1
      have W2 : Wd t2 a c ns bk5.1 bk4.2.1 cells [cv (5, 0), cv (0, (root : Int))] := by rw [e2]; exact W1.book (by show bk5.1.length < 900; rw [bk_len5]; decide) bk_lt2.2.2.2
      have K2 : Kept s t2 a := by rw [e2]; exact fun b o e hb => Kept.book (σ := t1) _ _ (K1 b o e hb) hb
      clear e2 K1 W1
      repeat' w_up
      exact ⟨rfl, rfl, W2, K2⟩
    subst el
    refine h _ _ ⟨W2, B.H, B.e, ?_, ?_, ?_, ?_, ?_, ?_, ?_, ?_, ?_, ?_, K2 _ _ B.h2 B.o2, K2 _ _ B.hbe B.obe, K2 _ _ B.htr B.otr, K2 _ _ B.t B.o5, B.tt, B.o2, B.o5, B.obe, B.otr, B.kd3, B.t1, t5, B.rt, B.U, B.Fu, B.cl⟩ (setL_ne (by decide +kernel) he) (setL_same _ _ _)
    all_goals refine setL_ne (by decide +kernel) ?_
    · exact hl _ _ B.lb (by decide +kernel) (by decide +kernel)
    · exact hl _ _ B.la (by decide +kernel) (by decide +kernel)
    · exact hl _ _ B.ls (by decide +kernel) (by decide +kernel)
    · exact hf
    · exact hl _ _ B.l2 (by decide +kernel) (by decide +kernel)
    · exact hl _ _ B.l5 (by decide +kernel) (by decide +kernel)
    · exact hl _ _ B.lr (by decide +kernel) (by decide +kernel)
    · exact hl _ _ B.lbe (by decide +kernel) (by decide +kernel)
    · exact hl _ _ B.ltr (by decide +kernel) (by decide +kernel)
    · exact hl _ _ B.lcl (by decide +kernel) (by decide +kernel)
end
end
section
/-! ### the graph of the law -/
noncomputable def gOf (l : Lay) (ec : Nat → Nat → Nat) : Gr := ⟨l.T, l.nd, fun j => (List.range (l.w j)).map fun p => edT l (ec j p) j p⟩
noncomputable def rOf (l : Lay) (ec : Nat → Nat → Nat) (fk : Nat → Int) : Rw := ⟨l.T, fun j => rowL l ec j, fk⟩
theorem ed_node {l : Lay} {c j p i : Nat} : edR l c j p = (i : Int) ↔ edT l c j p = .node i := by
  unfold edR edT
  split
  · constructor
    · intro h; have : c = i := by (first | lia | omega)
      rw [this]
    · intro h; cases h; rfl
  · split
    · constructor
      · intro h; have : c - l.T = i := by (first | lia | omega)
        rw [this]
      · intro h; cases h; rfl
    · split
      · constructor <;> intro h
        · (first | lia | omega)
        · cases h
      · split
        · constructor <;> intro h
          · (first | lia | omega)
          · cases h
        · constructor <;> intro h
          · (first | lia | omega)
          · cases h
theorem ch_node {l : Lay} {ec : Nat → Nat → Nat} {k i : Nat} : .node i ∈ (gOf l ec).ch k ↔ (i : Int) ∈ rowL l ec k := by
  unfold gOf rowL
  simp only [List.mem_map]
  constructor
  · rintro ⟨p, hp, e⟩; exact ⟨p, hp, ed_node.mpr e⟩
  · rintro ⟨p, hp, e⟩; exact ⟨p, hp, ed_node.mp e⟩
theorem acy_iff {l : Lay} {ec : Nat → Nat → Nat} {fk : Nat → Int} {k : Nat} : Acy (gOf l ec) k ↔ AcR (rOf l ec fk) k := by
  constructor
  · intro h
    induction h with
    | mk f ih =>
      refine .mk fun e he h0 => ih e.toNat (ch_node.mpr ?_)
      rw [show ((e.toNat : Nat) : Int) = e by (first | lia | omega)]; exact he
  · intro h
    induction h with
    | mk f ih =>
      refine .mk fun j hj => ?_
      have := ih (j : Int) (ch_node.mp hj) (by (first | lia | omega))
      simpa using this
theorem ch_lt {l : Lay} {ec : Nat → Nat → Nat} {k j : Nat} (h : .node j ∈ (gOf l ec).ch k) : j < l.T := by
  refine xE1A1 (List.mem_map.mp (ch_node.mp h)) fun p _ e => ?_
  have := edR_lt (l := l) (c := ec k p) (j := k) (p := p) (by rw [e]; (first | lia | omega))
  rw [e] at this
  simpa using this
theorem nd_snd (l : Lay) (j : Nat) : (l.nd j).2 = (l.s j : Int) := by unfold Lay.nd; split <;> rfl
theorem szK_pos (κ : Nat) : 0 < szK κ := by unfold szK; split <;> (first | lia | omega)
theorem nd_ne (l : Lay) (j : Nat) (i : Int) : l.nd j ≠ (0, i) := fun h => by
  have := nd_tag l j
  rw [h] at this
  rcases this with h | h <;> cases h
theorem nd_stop (l : Lay) (j : Nat) (cells : List Cell) : Der cells 0 (l.nd j) (l.nd j) := by
  have := nd_tag l j
  exact .stop (by (first | lia | omega)) (by (first | lia | omega))
section
variable {l : Lay} {ec : Nat → Nat → Nat} {N : Nat} {cells fs : List Cell}
theorem doorDer (H : HpB l l.T N cells l.nd (fun j p => edC l (ec j p) j p)) {i : Nat} (hi : i < l.T) : Der cells 1 (0, (i : Int)) (l.nd i) :=
  .step rfl (by show (0 : Int) ≤ _; (first | lia | omega)) (by show cells[((i : Nat) : Int).toNat]? = _; rw [Int.toNat_natCast]; exact H.door i hi) (nd_ne l i _) (nd_stop l i _)
theorem leadE (L : LayOk l l.T N) (H : HpB l l.T N cells l.nd (fun j p => edC l (ec j p) j p)) {j p : Nat} (hj : j < l.T) (hp : p < l.w j) : Lead (gOf l ec) cells (edC l (ec j p) j p) (edT l (ec j p) j p) := by
  have ha := H.args j p hj hp
  unfold Lead
  unfold edC edT at *
  by_cases h1 : ec j p < l.T
  · rw [if_pos h1, if_pos h1]
    exact ⟨⟨0, nd_stop l _ _⟩, fun k e => by cases e; exact h1⟩
  · rw [if_neg h1] at ha ⊢
    rw [if_neg h1]
    by_cases h2 : ec j p < 2 * l.T
    · rw [if_pos h2, if_pos h2]
      have := L.t1
      exact ⟨⟨1, doorDer H (by (first | lia | omega))⟩, fun k e => by cases e; show ec j p - l.T < l.T; (first | lia | omega)⟩
    · rw [if_neg h2] at ha ⊢
      rw [if_neg h2]
      by_cases h3 : ec j p = 2 * l.T
      · rw [if_pos h3, if_pos h3]
        exact ⟨⟨0, .stop (by show (4 : Int) ≠ 0; decide) (by show (4 : Int) ≠ 1; decide)⟩, fun k e => by cases e⟩
      · rw [if_neg h3] at ha ⊢
        rw [if_neg h3]
        by_cases h4 : ec j p = 2 * l.T + 1
        · rw [if_pos h4, if_pos h4]
          exact ⟨⟨0, .stop (by show (5 : Int) ≠ 0; decide) (by show (5 : Int) ≠ 1; decide)⟩, fun k e => by cases e⟩
        · rw [if_neg h4] at ha ⊢
          rw [if_neg h4]
          exact ⟨⟨0, .self rfl (by show (0 : Int) ≤ _; (first | lia | omega)) (by show cells[((l.b j + p : Nat) : Int).toNat]? = _; rw [Int.toNat_natCast]; exact ha)⟩, fun k e => by cases e⟩
theorem all2_map {α β γ : Type} {R : β → γ → Prop} {f : α → β} {g : α → γ} : ∀ {l : List α}, (∀ x ∈ l, R (f x) (g x)) → All2 R (l.map f) (l.map g)
  | [], _ => .nil
  | a :: l, h => .cons (h a (.head _)) (all2_map fun x hx => h x (.tail _ hx))
theorem grOk (L : LayOk l l.T N) (H : HpB l l.T N cells l.nd (fun j p => edC l (ec j p) j p)) (F : FsOk fs) (w1 : ∀ j, 1 ≤ l.w j) (w3 : ∀ j, l.w j ≤ 3) : GrOk (gOf l ec) cells fs where
  comp := fun k _ => nd_tag l k
  wid := fun k hk => by
    have : ((gOf l ec).ch k).length = l.w k := by simp [gOf]
    rw [this]; exact H.wid F hk (L.kd k hk)
  args := fun k hk => by
    refine ⟨(List.range (l.w k)).map fun p => edC l (ec k p) k p, ⟨?_, fun i hi => ?_⟩, all2_map fun p hp => leadE L H hk (List.mem_range.mp hp)⟩
    · show 0 ≤ bas (l.nd k); rw [nd_bas]; (first | lia | omega)
    · rw [List.length_map, List.length_range] at hi
      show cells[(bas (l.nd k) + (i : Int)).toNat]? = _
      rw [nd_bas, show (((l.b k : Nat) : Int) + (i : Int)).toNat = l.b k + i by (first | lia | omega), H.args k i hk hi, List.getElem?_map, List.getElem?_range hi]; rfl
  inj := fun j k hj hk e => by
    have e' : (l.nd j).2 = (l.nd k).2 := e
    rw [nd_snd, nd_snd] at e'
    have p1 := szK_pos (l.kd j)
    have p2 := szK_pos (l.kd k)
    rcases Nat.lt_trichotomy j k with q | q | q
    · have := L.ord j k q hk; (first | lia | omega)
    · exact q
    · have := L.ord k j q hj; (first | lia | omega)
  small := L.t5
  w3 := fun k _ => by
    have : ((gOf l ec).ch k).length = l.w k := by simp [gOf]
    rw [this]; exact ⟨w1 k, w3 k⟩
end
/-! ### the terms -/
noncomputable def tvOf (tT tf : Int → Option V) : Tgt → V
  | .node k => (tT (k : Int)).getD .none
  | .nil => .tup [.str "a", .int 0]
  | .num => .tup [.str "i", .int 7]
  | .var a => .tup [.str "v", (tf a).getD .none]
section
variable {l : Lay} {ec : Nat → Nat → Nat} {tT tf : Int → Option V} {fk : Nat → Int}
theorem part_tv (tt : ∀ j p, j < l.T → p < l.w j → 2 * l.T + 2 ≤ ec j p → tf ((l.b j + p : Nat) : Int) = some (.int (10 * (j : Int) + p))) {j p : Nat} (hj : j < l.T) (hp : p < l.w j) : partV tT (edR l (ec j p) j p) = tvOf tT tf (edT l (ec j p) j p) := by
  have h := tt j p hj hp
  unfold edR edT
  by_cases h1 : ec j p < l.T
  · rw [if_pos h1, if_pos h1]; unfold partV; rw [if_pos (by (first | lia | omega))]; rfl
  · rw [if_neg h1, if_neg h1]
    by_cases h2 : ec j p < 2 * l.T
    · rw [if_pos h2, if_pos h2]; unfold partV; rw [if_pos (by (first | lia | omega))]; rfl
    · rw [if_neg h2, if_neg h2]
      by_cases h3 : ec j p = 2 * l.T
      · rw [if_pos h3, if_pos h3]; rfl
      · rw [if_neg h3, if_neg h3]
        by_cases h4 : ec j p = 2 * l.T + 1
        · rw [if_pos h4, if_pos h4]; rfl
        · rw [if_neg h4, if_neg h4]
          have := h (by (first | lia | omega))
          show partV tT _ = .tup [.str "v", (tf ((l.b j + p : Nat) : Int)).getD .none]
          rw [this]
          unfold partV
          rw [if_neg (by (first | lia | omega)), if_neg (by (first | lia | omega)), if_neg (by (first | lia | omega))]
          show V.tup [.str "v", .int (-3 - (-3 - 10 * (j : Int) - p))] = .tup [.str "v", .int (10 * (j : Int) + p)]
          rw [show -3 - (-3 - 10 * (j : Int) - (p : Int)) = 10 * (j : Int) + p by (first | lia | omega)]
theorem row_tv (tt : ∀ j p, j < l.T → p < l.w j → 2 * l.T + 2 ≤ ec j p → tf ((l.b j + p : Nat) : Int) = some (.int (10 * (j : Int) + p))) {j : Nat} (hj : j < l.T) : (rowL l ec j).map (partV tT) = ((gOf l ec).ch j).map (tvOf tT tf) := by
  show ((List.range (l.w j)).map _).map _ = ((List.range (l.w j)).map _).map _
  rw [List.map_map, List.map_map]
  exact List.map_congr_left fun p hp => part_tv tt hj (List.mem_range.mp hp)
theorem some_iff (U : UI (rOf l ec fk) tT) (Fu : Full (rOf l ec fk) tT) {k : Nat} (hk : k < l.T) : (tT (k : Int)).isSome = true ↔ Acy (gOf l ec) k :=
  ⟨fun h => acy_iff.mpr (U.ac k hk h), fun h => Fu k hk (acy_iff.mp h)⟩
theorem tv_node (tt : ∀ j p, j < l.T → p < l.w j → 2 * l.T + 2 ≤ ec j p → tf ((l.b j + p : Nat) : Int) = some (.int (10 * (j : Int) + p))) (U : UI (rOf l ec fk) tT) (Fu : Full (rOf l ec fk) tT) {k : Nat} (hk : k < l.T) (h : Acy (gOf l ec) k) :
    tvOf tT tf (.node k) = .tup [.str "s", .int (fk k), .tup (((gOf l ec).ch k).map (tvOf tT tf))] := by
  have := (U.val k hk ((some_iff U Fu hk).mpr h)).2
  show (tT (k : Int)).getD .none = _
  rw [this]
  show V.tup [.str "s", .int (fk k), .tup ((rowL l ec k).map (partV tT))] = _
  rw [row_tv tt hk]
theorem tv_var (tt : ∀ j p, j < l.T → p < l.w j → 2 * l.T + 2 ≤ ec j p → tf ((l.b j + p : Nat) : Int) = some (.int (10 * (j : Int) + p))) {k : Nat} (hk : k < l.T) {a : Int} (h : .var a ∈ (gOf l ec).ch k) : ∃ i, tf a = some (.int i) ∧ tvOf tT tf (.var a) = .tup [.str "v", .int i] := by
  refine xE1A1 (List.mem_map.mp (show Tgt.var a ∈ (List.range (l.w k)).map _ from h)) fun p hp e => ?_
  have hq : 2 * l.T + 2 ≤ ec k p ∧ a = ((l.b k + p : Nat) : Int) := by
    unfold edT at e
    by_cases h1 : ec k p < l.T
    · rw [if_pos h1] at e; cases e
    · rw [if_neg h1] at e
      by_cases h2 : ec k p < 2 * l.T
      · rw [if_pos h2] at e; cases e
      · rw [if_neg h2] at e
        by_cases h3 : ec k p = 2 * l.T
        · rw [if_pos h3] at e; cases e
        · rw [if_neg h3] at e
          by_cases h4 : ec k p = 2 * l.T + 1
          · rw [if_pos h4] at e; cases e
          · rw [if_neg h4] at e; cases e; exact ⟨by (first | lia | omega), rfl⟩
  have := tt k p hk (List.mem_range.mp hp) hq.1
  rw [hq.2]
  refine ⟨_, this, ?_⟩
  show V.tup [.str "v", (tf _).getD .none] = _
  rw [this]; rfl
/-- good values: flat, writable, not deep -/
structure Good (x : V) (d : Nat) : Prop where
  f : x.flat = true
  c : x.py.canLay0 = true
  d : x.py.depth ≤ d
theorem good_all {d : Nat} : ∀ {xs : List V}, (∀ x ∈ xs, Good x d) → V.flats xs = true ∧ PyData.canLayAll0 (V.pys xs) = true ∧ PyData.depthAll (V.pys xs) ≤ d
  | [], _ => ⟨rfl, rfl, Nat.zero_le _⟩
  | x :: xs, h => by
    obtain ⟨h1, h2, h3⟩ := good_all (xs := xs) fun y hy => h y (.tail _ hy)
    have g := h x (.head _)
    refine ⟨?_, ?_, ?_⟩
    · simp only [V.flats, g.f, h1, Bool.and_self]
    · simp only [V.pys, PyData.canLayAll0, g.c, h2, Bool.and_self]
    · simp only [V.pys, PyData.depthAll]; exact Nat.max_le.mpr ⟨g.d, h3⟩
theorem good_tup {d : Nat} {xs : List V} (h : ∀ x ∈ xs, Good x d) : Good (.tup xs) (d + 1) := by
  refine xE0A2 (good_all h) fun h1 h2 h3 => ?_
  exact ⟨by simpa only [V.flat] using h1, by simpa only [V.py, PyData.canLay0] using h2, by simp only [V.py, PyData.depth]; (first | lia | omega)⟩
theorem Good.le {x : V} {d e : Nat} (h : Good x d) (q : d ≤ e) : Good x e := ⟨h.f, h.c, Nat.le_trans h.d q⟩
theorem good_int (i : Int) : Good (.int i) 0 := ⟨rfl, by simp [V.py, PyData.canLay0], by simp [V.py, PyData.depth]⟩
theorem good_str {s : Str} (h : PyData.strOk s = true) : Good (.str s) 0 := ⟨rfl, by simp [V.py, PyData.canLay0, h], by simp [V.py, PyData.depth]⟩
theorem good_pair {s : Str} (h : PyData.strOk s = true) (i : Int) : Good (.tup [.str s, .int i]) 1 := good_tup fun x hx => by
  simp only [List.mem_cons, List.not_mem_nil, or_false] at hx
  rcases hx with rfl | rfl
  · exact good_str h
  · exact good_int i
theorem Good.shaped {x : V} {d : Nat} (h : Good x d) (q : d ≤ 64) : PySem.SeqAt.shaped x.py = true := by
  unfold PySem.SeqAt.shaped
  rw [h.c, Bool.true_and]
  exact decide_eq_true (Nat.le_trans h.d q)
theorem Good.refl {x : V} {d : Nat} (h : Good x d) : PyData.eqv x.py x.py = true := PySem.SeqAt.eqv_refl _ h.c
theorem goodEx : ∀ {ts : List Tgt} {tv : Tgt → V} {Q : Nat → Prop}, (∀ t ∈ ts, ∃ c : List Nat, c.Nodup ∧ (∀ x ∈ c, Q x) ∧ Good (tv t) (2 * c.length + 1)) → ∃ c : List Nat, c.Nodup ∧ (∀ x ∈ c, Q x) ∧ ∀ t ∈ ts, Good (tv t) (2 * c.length + 1)
  | [], _, _, _ => ⟨[], .nil, fun _ h => (nomatch h), fun _ h => (nomatch h)⟩
  | t :: ts, tv, Q, h => by
    obtain ⟨c, c1, c2, c3⟩ := goodEx (ts := ts) fun u hu => h u (.tail _ hu)
    refine xE1A2 (h t (.head _)) fun b b1 b2 b3 => ?_
    rcases Nat.le_total b.length c.length with q | q
    · exact ⟨c, c1, c2, fun u hu => by
        rcases List.mem_cons.mp hu with rfl | hu
        · exact b3.le (by (first | lia | omega))
        · exact c3 u hu⟩
    · exact ⟨b, b1, b2, fun u hu => by
        rcases List.mem_cons.mp hu with rfl | hu
        · exact b3
        · exact (c3 u hu).le (by (first | lia | omega))⟩
theorem good_node (tt : ∀ j p, j < l.T → p < l.w j → 2 * l.T + 2 ≤ ec j p → tf ((l.b j + p : Nat) : Int) = some (.int (10 * (j : Int) + p))) (U : UI (rOf l ec fk) tT) (Fu : Full (rOf l ec fk) tT) {k : Nat} (h : Acy (gOf l ec) k) :
    k < l.T → ∃ c : List Nat, c.Nodup ∧ (∀ x ∈ c, x < l.T ∧ (x = k ∨ Plus (gOf l ec) k x)) ∧ Good (tvOf tT tf (.node k)) (2 * c.length + 1) := by
  induction h with
  | @mk k f ih =>
    intro hk
    obtain ⟨c, c1, c2, c3⟩ := goodEx (ts := (gOf l ec).ch k) (tv := tvOf tT tf) (Q := fun x => x < l.T ∧ Plus (gOf l ec) k x) fun t ht => by
      cases t with
      | node j =>
        refine xE1A2 (ih j ht (ch_lt ht)) fun c c1 c2 c3 => ?_
        refine ⟨c, c1, fun x hx => ⟨(c2 x hx).1, ?_⟩, c3⟩
        rcases (c2 x hx).2 with rfl | q
        · exact .one ht
        · exact q.head ht
      | nil => exact ⟨[], .nil, fun _ h => (nomatch h), good_pair (by decide +kernel) _⟩
      | num => exact ⟨[], .nil, fun _ h => (nomatch h), good_pair (by decide +kernel) _⟩
      | var a =>
        obtain ⟨i, _, e⟩ := tv_var (tT := tT) tt hk ht
        exact ⟨[], .nil, fun _ h => (nomatch h), by rw [e]; exact good_pair (by decide +kernel) _⟩
    refine ⟨k :: c, List.nodup_cons.mpr ⟨fun q => (Acy.mk f).noLoop (c2 k q).2, c1⟩, fun x hx => ?_, ?_⟩
    · rcases List.mem_cons.mp hx with rfl | hx
      · exact ⟨hk, .inl rfl⟩
      · exact ⟨(c2 x hx).1, .inr (c2 x hx).2⟩
    · rw [tv_node tt U Fu hk (.mk f), show 2 * (k :: c).length + 1 = (2 * c.length + 1 + 1) + 1 by simp; (first | lia | omega)]
      refine good_tup fun x hx => ?_
      simp only [List.mem_cons, List.not_mem_nil, or_false] at hx
      rcases hx with rfl | rfl | rfl
      · exact (good_str (by decide +kernel)).le (Nat.zero_le _)
      · exact (good_int _).le (Nat.zero_le _)
      · refine good_tup fun x hx => ?_
        refine xE1A1 (List.mem_map.mp hx) fun t ht hr1_ => ?_
        obtain rfl := hr1_
        exact c3 t ht
theorem good_ball (kf km : Nat) : Good (ballV kf km) 64 := by
  have p : ∀ (a b : V) (n : Nat), Good a n → Good b n → ∀ x ∈ [a, b], Good x n := fun a b n ha hb x hx => by
    simp only [List.mem_cons, List.not_mem_nil, or_false] at hx
    rcases hx with rfl | rfl <;> assumption
  have p3 : ∀ (a b c : V) (n : Nat), Good a n → Good b n → Good c n → ∀ x ∈ [a, b, c], Good x n := fun a b c n ha hb hc x hx => by
    simp only [List.mem_cons, List.not_mem_nil, or_false] at hx
    rcases hx with rfl | rfl | rfl <;> assumption
  have s : Good (.str "s") 0 := good_str (by decide +kernel)
  have t1 : Good (.tup [.tup [.str "a", .int (km : Int)]]) 2 := good_tup fun x hx => by rw [List.mem_singleton.mp hx]; exact good_pair (by decide +kernel) _
  have t2 : Good (.tup [.str "s", .int (kf : Int), .tup [.tup [.str "a", .int (km : Int)]]]) 3 := good_tup (p3 _ _ _ _ (s.le (by (first | lia | omega))) ((good_int _).le (by (first | lia | omega))) t1)
  have t3 : Good (.tup [.tup [.str "s", .int (kf : Int), .tup [.tup [.str "a", .int (km : Int)]]], .tup [.str "a", .int 25]]) 4 := good_tup (p _ _ _ t2 ((good_pair (by decide +kernel) _).le (by (first | lia | omega))))
  exact (good_tup (p3 _ _ _ _ (s.le (by (first | lia | omega))) ((good_int _).le (by (first | lia | omega))) t3)).le (by (first | lia | omega))
end
/-! ### what is reached, where the tail ends -/
section
variable {l : Lay} {ec : Nat → Nat → Nat} {fk : Nat → Int}
theorem rr_iff {root k : Nat} : RR (rOf l ec fk) root k ↔ Rt (gOf l ec) (.node root) (.node k) := by
  constructor
  · intro h
    induction h with
    | root => exact .root
    | @step k e _ he h0 ih => exact .step ih (ch_node.mpr (by rw [show ((e.toNat : Nat) : Int) = e by (first | lia | omega)]; exact he))
  · intro h
    have : ∀ t, Rt (gOf l ec) (.node root) t → ∀ k, t = .node k → RR (rOf l ec fk) root k := by
      intro t ht
      induction ht with
      | root => intro k e; cases e; exact .root
      | @step k t _ hm ih =>
        intro j e; subst e
        have := RR.step (ih k rfl) (show (j : Int) ∈ (rOf l ec fk).R k from ch_node.mp hm) (by (first | lia | omega))
        simpa using this
    exact this _ h k rfl
theorem ed_var {c j p : Nat} : edR l c j p < -2 ↔ ∃ a, edT l c j p = .var a := by
  unfold edR edT
  split
  · constructor
    · intro h; (first | lia | omega)
    · rintro ⟨a, e⟩; cases e
  · split
    · constructor
      · intro h; (first | lia | omega)
      · rintro ⟨a, e⟩; cases e
    · split
      · constructor
        · intro h; (first | lia | omega)
        · rintro ⟨a, e⟩; cases e
      · split
        · constructor
          · intro h; (first | lia | omega)
          · rintro ⟨a, e⟩; cases e
        · exact ⟨fun _ => ⟨_, rfl⟩, fun _ => by (first | lia | omega)⟩
theorem closed_iff {root : Nat} : (∀ k, RR (rOf l ec fk) root k → ∀ e ∈ rowL l ec k, -2 ≤ e) ↔ ∀ t, Rt (gOf l ec) (.node root) t → ∀ a, t ≠ .var a := by
  constructor
  · intro h t ht a e
    subst e
    cases ht with
    | @step k _ hk hm =>
      refine xE1A1 (List.mem_map.mp (show Tgt.var a ∈ (List.range (l.w k)).map _ from hm)) fun p hp e => ?_
      have h1 : edR l (ec k p) k p < -2 := ed_var.mpr ⟨a, e⟩
      have := h k (rr_iff.mpr hk) (edR l (ec k p) k p) (List.mem_map.mpr ⟨p, hp, rfl⟩)
      (first | lia | omega)
  · intro h k hk e he
    refine xE1A1 (List.mem_map.mp he) fun p hp hr2_ => ?_
    obtain rfl := hr2_
    refine Int.not_lt.mp fun q => ?_
    refine xE1A0 (ed_var.mp q) fun a e => ?_
    exact h _ (.step (rr_iff.mp hk) (List.mem_map.mpr ⟨p, hp, rfl⟩)) a e
end
end
section
section
variable {l : Lay} {ec : Nat → Nat → Nat}
theorem ToNil.det {g : Gr} {n m : Nat} {t : Tgt} (a : ToNil g n t) (d : ToNil g m t) : n = m := by
  induction a generalizing m with
  | nil => cases d; rfl
  | step _ b _ ih =>
    cases d with
    | step _ b' c' =>
      rw [b] at b'; cases b'
      rw [ih c']
theorem ToNil.chain {n : Nat} {t : Tgt} (h : ToNil (gOf l ec) n t) : (∀ k, t = .node k → k < l.T) → ∃ c : List Nat, c.length = n ∧ c.Nodup ∧ (∀ x ∈ c, x < l.T) ∧ ∀ x ∈ c, ∃ i, i ≤ n ∧ ToNil (gOf l ec) i (.node x) := by
  induction h with
  | nil => intro _; exact ⟨[], rfl, .nil, fun _ h => (nomatch h), fun _ h => (nomatch h)⟩
  | @step k n t a b c ih =>
    intro hk
    obtain ⟨c', c1, c2, c3, c4⟩ := ih fun j e => by
      subst e
      exact ch_lt (List.mem_of_getElem? b)
    refine ⟨k :: c', by simp [c1], List.nodup_cons.mpr ⟨fun q => ?_, c2⟩, fun x hx => ?_, fun x hx => ?_⟩
    · refine xE1A1 (c4 k q) fun i hi q => ?_
      have := ToNil.det q (.step a b c)
      (first | lia | omega)
    · rcases List.mem_cons.mp hx with rfl | hx
      · exact hk _ rfl
      · exact c3 x hx
    · rcases List.mem_cons.mp hx with rfl | hx
      · exact ⟨n + 1, Nat.le_refl _, .step a b c⟩
      · refine xE1A1 (c4 x hx) fun i hi q => ?_
        exact ⟨i, by (first | lia | omega), q⟩
theorem ToNil.le {n root : Nat} (hr : root < l.T) (h : ToNil (gOf l ec) n (.node root)) : n ≤ l.T := by
  obtain ⟨c, c1, c2, c3, _⟩ := h.chain fun k e => by cases e; exact hr
  rw [← c1]
  exact nodup_lt l.T c c2 c3
noncomputable def itE (l : Lay) (ec : Nat → Nat → Nat) : Nat → Int → Int
  | 0, e => e
  | n + 1, e => itE l ec n (stepE l ec e)
theorem itE_succ : ∀ (n : Nat) (e : Int), itE l ec (n + 1) e = stepE l ec (itE l ec n e)
  | 0, e => rfl
  | n + 1, e => by
    show itE l ec (n + 1) (stepE l ec e) = _
    rw [itE_succ n]; rfl
theorem iterE_it (root : Nat) : ∀ n, iterE l ec root n = itE l ec n root
  | 0 => rfl
  | n + 1 => by
    rw [itE_succ, ← iterE_it root n]; rfl
theorem stepE_neg {e : Int} (h : e < 0) : stepE l ec e = e := by unfold stepE; rw [if_neg (by (first | lia | omega))]
theorem itE_neg {e : Int} (h : e < 0) : ∀ n, itE l ec n e = e
  | 0 => rfl
  | n + 1 => by rw [itE, stepE_neg h, itE_neg h n]
theorem ed_nil {c j p : Nat} : edR l c j p = -1 ↔ edT l c j p = .nil := by
  unfold edR edT
  split
  · constructor
    · intro h; (first | lia | omega)
    · intro h; cases h
  · split
    · constructor
      · intro h; (first | lia | omega)
      · intro h; cases h
    · split
      · exact ⟨fun _ => rfl, fun _ => rfl⟩
      · split
        · constructor
          · intro h; (first | lia | omega)
          · intro h; cases h
        · constructor
          · intro h; (first | lia | omega)
          · intro h; cases h
theorem ch_1 {k : Nat} (h : l.kd k = 0) : ((gOf l ec).ch k)[1]? = some (edT l (ec k 1) k 1) := by
  have : 1 < l.w k := by show 1 < wdK (l.kd k); unfold wdK; rw [if_pos h]; decide
  show ((List.range (l.w k)).map _)[1]? = _
  rw [List.getElem?_map, List.getElem?_range this]; rfl
theorem nd_3 {k : Nat} : (l.nd k).1 = 3 ↔ l.kd k = 0 := by
  unfold Lay.nd
  split
  · simp_all
  · constructor <;> intro h
    · cases h
    · contradiction
theorem step_0 {k : Nat} (h : l.kd k = 0) : stepE l ec (k : Int) = edR l (ec k 1) k 1 := by
  unfold stepE
  rw [if_pos ⟨by (first | lia | omega), by rw [Int.toNat_natCast]; exact h⟩, Int.toNat_natCast]
theorem step_n {k : Nat} (h : l.kd k ≠ 0) : stepE l ec (k : Int) = k := by
  unfold stepE
  rw [if_neg (fun q => h (by have := q.2; rwa [Int.toNat_natCast] at this))]
theorem to_of_it : ∀ (n k : Nat), itE l ec n (k : Int) = -1 → ∃ m, ToNil (gOf l ec) m (.node k)
  | 0, k, h => by have h' : (k : Int) = -1 := h; (first | lia | omega)
  | n + 1, k, h => by
    have h' : itE l ec n (stepE l ec (k : Int)) = -1 := h
    by_cases q : l.kd k = 0
    · rw [step_0 q] at h'
      by_cases z : edR l (ec k 1) k 1 ≥ 0
      · refine xE1A0 (Int.eq_ofNat_of_zero_le z) fun j hj => ?_
        rw [hj] at h'
        refine xE1A0 (to_of_it n j h') fun m hm => ?_
        exact ⟨m + 1, .step (nd_3.mpr q) (by rw [ch_1 q, ed_node.mp hj]) hm⟩
      · rw [itE_neg (by (first | lia | omega))] at h'
        exact ⟨1, .step (nd_3.mpr q) (by rw [ch_1 q, ed_nil.mp h']) .nil⟩
    · rw [step_n q] at h'
      exact to_of_it n k h'
theorem it_of_to {m : Nat} {t : Tgt} (h : ToNil (gOf l ec) m t) : ∀ k, t = .node k → ∀ n, m ≤ n → itE l ec n (k : Int) = -1 := by
  induction h with
  | nil => intro k e; cases e
  | @step k m t a b c ih =>
    intro k' e n hn
    cases e
    obtain ⟨n, rfl⟩ : ∃ n', n = n' + 1 := ⟨n - 1, by (first | lia | omega)⟩
    have q := nd_3.mp a
    show itE l ec n (stepE l ec (k : Int)) = -1
    rw [step_0 q]
    rw [ch_1 q] at b
    have b' := Option.some.inj b
    cases t with
    | node j =>
      rw [ed_node.mpr b']
      exact ih j rfl n (by (first | lia | omega))
    | nil => rw [ed_nil.mpr b', itE_neg (by (first | lia | omega))]
    | num => cases c
    | var _ => cases c
theorem end_iff {root : Nat} (hr : root < l.T) : iterE l ec root l.T = -1 ↔ ∃ n, ToNil (gOf l ec) n (.node root) := by
  rw [iterE_it]
  constructor
  · exact to_of_it _ _
  · rintro ⟨n, h⟩; exact it_of_to h root rfl _ (h.le hr)
end
end
section
theorem WX.use {C : Cx} {R R' : Around → Prop} {outer : List Env} {f : Addr} {args : List V} {P P' : V → Sg → Prop} {PX PX' : Addr → Addr → Addr → Sg → Prop} {σ : Sg} (h : WX C R' outer f args P PX σ) (hR : ∀ A, R A → R' A) (hp : ∀ x s, P x s → P' x s) (hx : ∀ a d Cl s, PX a d Cl s → PX' a d Cl s) : WX C R outer f args P' PX' σ :=
  fun A s Q E vals r at_ rv k kx => h A s Q E vals (hR A r) at_ rv (fun v x s' σ' e1 e2 e3 e4 => k v x s' σ' e1 e2 e3 (hp _ _ e4)) fun e s' g => kx e s' (by
    refine Classical.byContradiction fun hG => ?_
    refine xE6A0 g fun a Cl t d s₀ σ₀ g => ?_
    refine xE2A0 g fun h' as g => ?_
    refine xE0A6 g fun g1 g2 g3 g4 g5 g6 g7 => ?_
    exact hG ⟨a, Cl, t, d, s₀, σ₀, h', as, g1, g2, g3, g4, g5, hx _ _ _ _ g6, g7⟩)
section
variable {C : Cx} {R : Rm} {env : Env} {loc : Loc} {σ : Sg} {X : XT C R env} {P : Fl → Loc → Sg → Prop}
theorem WS.own {t : Sem Flow} (h : σ env.locals = none → WS C R env X t P loc σ) : WS C R env X t P loc σ :=
  fun A s Q E r a f k kx => h (f.new _ (.inl rfl)).2 A s Q E r a f k kx
theorem W_testOr3 {x y z : Expr} {pos : Pos} {whole whole' : Sem Value} {P : Bool → Sg → Prop}
    (h : WB C R env loc (isTrue x env (eval x env)) (fun b σ' => if b then P true σ' else WB C R env loc (isTrue (.BoolOp .Or [y, z] pos) env whole') P σ') σ) :
    WB C R env loc (isTrue (.BoolOp .Or [x, y, z] pos) env whole) P σ := by
  intro A s Q E r' a f k
  refine wpAny_isTrue_BoolOp (wpAny_allTrue_Or_cons (h A s _ E r' a f fun u b s₁ σ₁ e1 e2 e3 e4 => ?_))
  cases e1
  cases u with
  | true => exact k _ _ s₁ σ₁ rfl e2 e3 e4
  | false => exact (show WB C R env loc (isTrue (.BoolOp .Or [y, z] pos) env whole') P σ₁ from e4) A s₁ _ E r' e2 (f.step a e3) fun u b s₂ σ₂ z1 z2 z3 z4 => k u b s₂ σ₂ z1 z2 (e3.trans z3) z4
theorem W_And2 {l r : Expr} {pos : Pos} {P : V → Sg → Prop}
    (h : WE C R env loc (eval l env) (fun x σ₁ => ∃ b, x = .bool b ∧ if b then WE C R env loc (eval r env) P σ₁ else P (.bool false) σ₁) σ) : WE C R env loc (eval (.BoolOp .And [l, r] pos) env) P σ := by
  intro A s Q E r' a f k
  refine wpAny_And2 (h A s _ E r' a f fun v x s₁ σ₁ e1 e2 e3 e4 => ?_)
  refine xE1A1 e4 fun b hr1_ hb => ?_
  try clear e4
  obtain rfl := hr1_
  cases e1
  have f1 := f.step a e3
  refine wpAny_truthy_bool ?_
  cases b with
  | false => exact k _ _ s₁ σ₁ (.bool _) e2 e3 hb
  | true => exact (show WE C R env loc (eval r env) P σ₁ from hb) A s₁ _ E r' e2 f1 fun v x s' σ' z1 z2 z3 z4 => k v x s' σ' z1 z2 (e3.trans z3) z4
theorem Op_neB {x y : Bool} {P : V → Sg → Prop} (h : P (.bool (x != y)) σ) : OpV C R env loc (compareOp .NotEq) (.bool x) (.bool y) P σ :=
  Op_neD rfl rfl (by cases x <;> decide +kernel) (by cases y <;> decide +kernel) (by
    have : PyData.eqv (V.bool x).py (V.bool y).py = (x == y) := by simp [V.py, PyData.eqv]
    rw [this]; exact h)
end
theorem Wd.sub {σ σ' : Sg} {a : Ads} {c : Int} {ns : List Int} {ts : List Str} {fs : List Cell} {cells : List Cell} {xs : List V} (W : Wd σ a c ns ts fs cells xs) (h : Sub σ σ') : Wd σ' a c ns ts fs cells xs :=
  W.same fun x hx => by
    refine xE1A0 (W.told x hx) fun o e => ?_
    rw [e]; exact h _ _ e
theorem bk_pos : posOf bk5.1 "memory" = some bk5.2 ∧ (∃ ka, posOf bk5.1 "resource_error" = some ka ∧ posOf bk4.2.1 ((ka : Int), 1) = some bk4.2.2) := ⟨by decide +kernel, 32, by decide +kernel, by decide +kernel⟩
theorem fs_ok4 : FsOk bk4.2.1 := fun m h1 h2 => by
  have : m = 1 ∨ m = 2 ∨ m = 3 := by (first | lia | omega)
  rcases this with rfl | rfl | rfl
  · exact ⟨29, by decide +kernel⟩
  · exact ⟨30, by decide +kernel⟩
  · exact ⟨31, by decide +kernel⟩
set_option hygiene false
set_option compiler.extract_closed false
local macro_rules | `(tactic| o_new) => `(tactic| first
  | with_reducible assumption | (with_reducible exact setL_same _ _ _) | (with_reducible refine setL_ne (by kernel_rfl!) ?_; o_new) | (refine locF_cell (by with_unfolding_all rfl) ?_; o_new) | (with_reducible exact locOf_hit (by kernel_rfl!)) | (with_reducible refine locOf_skip ?_; o_new) | rfl)
set_option hygiene true
set_option hygiene false
set_option compiler.extract_closed false
local macro_rules | `(tactic| w_up) => `(tactic| ((with_reducible show WG _ _ (compEnvC _ _ _ _) _ Rep (eval (.Name _ _) _) _ _); refine W_compCell (by decide +kernel) (by with_unfolding_all rfl) (by o_new) ?_))
set_option hygiene true


section
variable {C : Cx} (hK : C.K = KK C.w.params) {R : Rm} {nm : Str} {L fa : Addr} {cd : Value}
include hK
theorem lawE {X : XT C (lvF 9 [envLaw nm L fa cd]) (envLaw nm L fa cd)} {P : Fl → Loc → Sg → Prop} {σ : Sg} {a : Ads} {loc : Loc} {T : Nat} {kd : Nat → Nat} {ec : Nat → Nat → Nat} {root : Nat} {tf : Int → Option V} {n : Nat} {c : Int} {ns : List Int} {cells : List Cell} {dr tb be tr : Addr} {tT : Int → Option V} {nT : Nat} {cl : Bool} (B : StD σ a loc T kd ec root tf n c ns bk5.1 bk4.2.1 cells dr tb be tr tT nT cl)
    (le : loc "end" = some (.int (iterE (layF T kd) ec root T))) (lre : loc "refused" = some (ballV bk4.2.2 bk5.2))
    (h : ∀ loc σ, P (.ret (.bool true)) loc σ) : WS C (lvF 9 [envLaw nm L fa cd]) (envLaw nm L fa cd) X (execs (bdLaw.drop 21) (envLaw nm L fa cd)) P loc σ := by
  have gl : ∀ {α : Type} (f : Nat → α) (m i : Nat), i < m → ((List.range m).map f)[i]? = some (f i) := fun f m i hi => by rw [List.getElem?_map, List.getElem?_range hi]; rfl
  have LO : LayOk (layF T kd) (layF T kd).T (spF T kd T) := layF_ok B.t1 B.t5 (fun j _ => B.kd3 j) T
  have G : GrOk (gOf (layF T kd) ec) cells bk4.2.1 := grOk LO B.H fs_ok4 (fun j => w_pos j) (fun j => w_le3 B.kd3 j)
  have hT : ∀ k, k < (gOf (layF T kd) ec).T → ∀ j, .node j ∈ (gOf (layF T kd) ec).ch k → j < (gOf (layF T kd) ec).T := fun k _ j hj => ch_lt hj
  have hD : Der cells 1 (0, (root : Int)) ((layF T kd).nd root) := doorDer (l := layF T kd) (ec := ec) B.H B.rt
  have tt : ∀ j p, j < (layF T kd).T → p < (layF T kd).w j → 2 * (layF T kd).T + 2 ≤ ec j p → tf (((layF T kd).b j + p : Nat) : Int) = some (.int (10 * (j : Int) + p)) := B.tt
  have U : UI (rOf (layF T kd) ec fun j => fkK (kd j)) tT := B.U
  have Fu : Full (rOf (layF T kd) ec fun j => fkK (kd j)) tT := B.Fu
  have hsome := some_iff (l := layF T kd) (ec := ec) U Fu B.rt
  refine xE0A1 bk_pos fun kp0 hz1_ => ?_
  try clear bk_pos
  refine xE1A1 hz1_ fun ka kp1 kp2 => ?_
  clear hz1_
  have Y : ∃ y, y = (tT (root : Int)).getD (ballV bk4.2.2 bk5.2) ∧ Good y 64 := ⟨_, rfl, by
    by_cases q : Acy (gOf (layF T kd) ec) root
    · refine xE1A2 (good_node tt U Fu q B.rt) fun ch c1 c2 c3 => ?_
      have hl := nodup_lt T ch c1 fun x hx => (c2 x hx).1
      have t5 := B.t5
      have := hsome.mpr q
      refine xE1A0 (Option.isSome_iff_exists.mp this) fun v hv => ?_
      have e : tvOf tT tf (.node root) = v := by show (tT (root : Int)).getD .none = v; rw [hv]; rfl
      rw [e] at c3
      rw [hv]; exact c3.le (by (first | lia | omega))
    · have : tT (root : Int) = none := by
        cases z : tT (root : Int) with
        | none => rfl
        | some v => exact absurd (hsome.mp (by rw [z]; rfl)) q
      rw [this]; exact good_ball _ _⟩
  refine xE1A1 Y fun y hy gy => ?_
  try clear Y
  refine WS.own fun hown => ?_
  refine S_seq (fun l s => l = setL loc "told" y ∧ Sub σ s) ?_ fun l s ⟨el, hs⟩ => ?_
  · refine S_TryMX (fun A h => h.2) rfl (by o_inst) (by o_inst) (by decide) B.lf (c_PrologError hK).1 (n_51 hK) (f_ball hK) (by o_inst) ?_
    have ls := B.ls
    have l2 := B.l2
    have lr := B.lr
    have l5 := B.l5
    have s1' := B.W.S.h1
    have s2' := B.W.S.h2
    have rt := B.rt
    have t5 := B.t5
    repeat' w_up
    refine ⟨_, _, _, _, _, _, rfl, (by w_typed), (by w_typed), (by first | assumption | rfl), (by w_side), ?_⟩
    repeat' w_up
    refine O_sub_list B.h2 (by (first | lia | omega)) (by (first | lia | omega)) (x := cv (0, (root : Int))) (by rw [Int.toNat_natCast]; exact gl (fun (j : Nat) => cv (0, (j : Int))) _ _ rt) ?_
    repeat' w_up
    intro o' ho'
    have N : ∀ {b o}, σ b = some o → upd σ (envLaw nm L fa cd).locals (.raw o') b = some o := fun e => upd_look (fun q => by rw [q, hown] at e; cases e) e
    have hsub : Sub σ (upd σ (envLaw nm L fa cd).locals (.raw o')) := fun b o e => N e
    have W' := B.W.sub hsub
    have hfk : ∀ k, k < (gOf (layF T kd) ec).T → (((gOf (layF T kd) ec).nd k).1 = 3 ∧ fkK (kd k) = 0) ∨ (((gOf (layF T kd) ec).nd k).1 = 2 ∧ 0 ≤ ((gOf (layF T kd) ec).nd k).2 ∧ ∃ t, cells[((gOf (layF T kd) ec).nd k).2.toNat]? = some (t, fkK (kd k))) := fun k hk => by
      by_cases q : kd k = 0
      · exact .inl ⟨nd_3.mpr q, (fkK0 _).mpr q⟩
      · have e2 : ((gOf (layF T kd) ec).nd k).2 = ((layF T kd).s k : Int) := nd_snd _ _
        refine .inr ⟨(nd_tag (layF T kd) k).resolve_right fun z => q (nd_3.mp z), by rw [e2]; (first | lia | omega), 6, ?_⟩
        rw [e2, Int.toNat_natCast, B.H.head k hk q]
        show some ((6 : Int), ((31 + kd k : Nat) : Int)) = _
        unfold fkK
        rw [if_neg q]
        congr 2
    have ho : OutS [envLaw nm L fa cd] (upd σ (envLaw nm L fa cd).locals (.raw o')) := fun e he => by
      rw [List.mem_singleton.mp he]
      exact ⟨by show scLaw.kind ≠ .module; decide +kernel, _, o', rfl, upd_same _ _ _⟩
    refine (take_term_ok hK (g := gOf (layF T kd) ec) (r0 := root) (m := 1) (tv := tvOf tT tf) (fk := fun j => fkK (kd j)) (ka := ka) (outer := [envLaw nm L fa cd]) W'.S W'.B G B.rt hD hT hfk (N B.t) rfl rfl (fun k hk b hb => by
      obtain ⟨i, z1, z2⟩ := tv_var (tT := tT) tt hk hb
      exact ⟨_, z1, z2⟩) (fun k hk hac => tv_node tt U Fu hk hac) ho kp0 kp1 kp2).use (fun A h => ⟨lv_mono h.1 (by (first | lia | omega)), h.2⟩) ?_ ?_
    · intro x s hI_
      refine xE0A2 hI_ fun hac e1 e2 => ?_
      try clear hI_
      subst e2
      refine ⟨upd_same _ _ _, rfl, ?_, fun b o e => ?_⟩
      · have e : x = y := by
          refine xE1A0 (Option.isSome_iff_exists.mp (hsome.mpr hac)) fun v hv => ?_
          rw [e1, hy, hv]
          show (tT (root : Int)).getD .none = _
          rw [hv]; rfl
        rw [e]
      · show (if b = _ then none else _) = _
        rw [if_neg (fun q => by rw [q, hown] at e; cases e)]
        exact N e
    · intro ea d Cl s hI_
      refine xE0A5 hI_ fun hac hCl hs ha hd hdd => ?_
      try clear hI_
      have hn : tT (root : Int) = none := by
        cases z : tT (root : Int) with
        | none => rfl
        | some v => exact absurd (hsome.mp (by rw [z]; rfl)) hac
      refine ⟨hCl, hs _ _ (upd_same _ _ _), _, _, ballV bk4.2.2 bk5.2, hdd, rfl, rfl, ?_, fun b o e => ?_⟩
      · rw [hy, hn]; rfl
      · show (if b = _ then none else if b = ea then none else s b) = _
        rw [if_neg (fun q => by rw [q, hown] at e; cases e), if_neg (fun q => by have z := N e; rw [q, ha] at z; cases z)]
        exact hs _ _ (N e)
  · subst el
    have lb' := B.ltr
    have lr := B.lr
    have la := B.la
    have ls := B.ls
    have lcl := B.lcl
    have lbe := B.lbe
    have W := B.W.sub hs
    have Bo : Boo s a.bk a.bd a.tx a.an a.fu a.fn bk4.2.1 := ⟨W.B.b1, W.B.b2, W.B.b5, Nat.lt_of_lt_of_le W.B.l2 (by decide)⟩
    have s1' := W.S.h1
    have s2' := W.S.h2
    have A : Ars s a.ar a.ad a.xl a.st (areasNs a.bk a.co a.st a.xl a.ro a.ba) 18 [cv (5, 0), cv (0, (root : Int))] (0, (root : Int)) := ⟨W.a1, W.a2, rfl, rfl, rfl, W.x, rfl, by simp⟩
    have htr := hs _ _ B.htr
    have hbe := hs _ _ B.hbe
    repeat' w_up
    refine B_getI htr ?_
    rw [← hy]
    refine Op_neD gy.f gy.f (gy.shaped (Nat.le_refl _)) (gy.shaped (Nat.le_refl _)) ⟨_, rfl, ?_⟩
    rw [gy.refl]
    show @ite _ (false = true) _ _ _
    repeat' w_up
    refine W_testOr3 (whole' := pure .none) ?_
    repeat' w_up
    have h1 : ((gOf (layF T kd) ec).cell (.node root)).1 ≠ 1 := fun q => by
      have := nd_tag (layF T kd) root
      have q' : ((layF T kd).nd root).1 = 1 := q
      (first | lia | omega)
    have hc : Lead (gOf (layF T kd) ec) cells ((gOf (layF T kd) ec).cell (.node root)) (.node root) := ⟨⟨0, nd_stop (layF T kd) root _⟩, fun k e => by cases e; exact B.rt⟩
    have hrt : ∀ t, Rt (gOf (layF T kd) ec) (.node root) t → ∀ k, t = .node k → k < (gOf (layF T kd) ec).T := fun t ht k e => by
      subst e
      cases ht with
      | root => exact B.rt
      | step _ hm => exact ch_lt hm
    refine (pred_acyclic_ok hK (g := gOf (layF T kd) ec) (t₀ := .node root) (k := 1) W.S Bo A G hD h1 hc hT (tT (root : Int)).isSome hsome).useFV (by decide) ?_
    repeat' w_up
    refine O_in_dictI htr ?_
    refine Op_neB ⟨_, rfl, ?_⟩
    rw [bne_self_eq_false]
    show @ite _ (false = true) _ _ _
    refine ite_f ?_
    repeat' w_up
    have hcl : cl = true ↔ ∀ t, Rt (gOf (layF T kd) ec) (.node root) t → ∀ a, t ≠ .var a := B.cl.trans (closed_iff (l := layF T kd) (ec := ec) (fk := fun j => fkK (kd j)))
    refine (pred_ground_ok hK (g := gOf (layF T kd) ec) (t₀ := .node root) (k := 1) W.S Bo A G hD h1 hc hrt cl hcl).useFV (by decide) ?_
    repeat' w_up
    refine Op_neB ⟨_, rfl, ?_⟩
    rw [bne_self_eq_false]
    show @ite _ (false = true) _ _ _
    refine ite_f ?_
    repeat' w_up
    have hli : decide (iterE (layF T kd) ec root T = -1) = true ↔ ∃ n, ToNil (gOf (layF T kd) ec) n (.node root) := by
      rw [decide_eq_true_eq]; exact end_iff B.rt
    refine (pred_is_list_ok hK (g := gOf (layF T kd) ec) (t₀ := .node root) (k := 1) W.S A G hD h1 hc _ hli).useFV (by decide) ?_
    repeat' w_up
    all_goals (
      rename_i hq
      refine Op_neB ⟨_, rfl, ?_⟩
      first | rw [decide_eq_true hq] | rw [decide_eq_false hq]
      rw [bne_self_eq_false]
      show @ite _ (false = true) _ _ _
      refine ite_f ?_
      repeat' w_up
      refine W_And2 ?_
      repeat' w_up
      refine Op_eqL W.S.h3 hbe (cvs_flat _) (cvs_flat _) (cvs_shaped _) (cvs_shaped _) ⟨_, rfl, ?_⟩
      rw [cvs_eq, decide_eq_true rfl]
      show @ite _ (true = true) _ _ _
      refine ite_t ?_
      repeat' w_up
      rename_i b hb
      refine Op_eqInts (l := []) (m := []) (upd_look (ne_fresh hb W.S.h5) W.S.h5) (upd_same _ _ _) ?_
      rw [decide_eq_true rfl]
      exact h _ _)
end
end
end
end Mine
end
section
set_option Elab.async false
set_option linter.unusedVariables false
namespace Mine
open PySem PySem.W
theorem lawAll {C : Cx} (hK : C.K = KK C.w.params) {nm : Str} {L fa : Addr} {cd : Value} {sl : Addr} {zs : List Int} {X : XT C (lvF 9 [envLaw nm L fa cd]) (envLaw nm L fa cd)} {P : Fl → Loc → Sg → Prop} (g : Grd C sl (zs.map .int)) (hl : zs.length ≤ 63) {σ : Sg} {loc : Loc} (h0 : loc "script" = some (.ref sl)) (hf : loc "fault" = none)
    (h : ∀ loc σ, P (.ret (.bool true)) loc σ) : WS C (lvF 9 [envLaw nm L fa cd]) (envLaw nm L fa cd) X (execs bdLaw (envLaw nm L fa cd)) P loc σ :=
  lawA hK g hl h0 hf fun a loc σ ki T c ns A => lawB hK A fun loc σ kd c ns cells fo dr no rw_ tb B => lawC1 hK B fun loc' σ' ec rowA tf n c ns cells hl hf I => lawC2 hK B hl hf I fun loc σ root c ns cells D =>
    lawD1 hK D fun loc σ be tr tT nT cl E lfo lrw lt hfo hrw hro => lawD2 hK E lfo lrw lt hfo hrw hro fun loc σ F le lre => lawE hK F le lre h
end Mine
end
section
set_option Elab.async false
set_option linter.unusedVariables false
namespace Mine
open PySem PySem.W
theorem cellsFrom_apart : ∀ (names : List (Str × NameKind)) (n : Nat) (acc : List (Str × Addr)), acc.Pairwise (fun x y => x.2 ≠ y.2) → (∀ p ∈ acc, p.2 < n) → (cellsFrom n names acc).Pairwise fun x y => x.2 ≠ y.2
  | [], n, acc, h, _ => h
  | (y, k) :: r, n, acc, h, hl => by
    unfold cellsFrom
    split
    · refine cellsFrom_apart r _ _ (List.pairwise_cons.mpr ⟨fun p hp => ?_, h⟩) fun p hp => ?_
      · exact Nat.ne_of_gt (hl p hp)
      · rcases List.mem_cons.mp hp with rfl | hp
        · exact Nat.lt_succ_self _
        · exact Nat.lt_succ_of_lt (hl p hp)
    · exact cellsFrom_apart r _ _ h hl
theorem cells_get {cm : Str → Option Value} {cs : List (Str × Addr)} {news : List (Addr × Obj)} (x : PyProof.Rows.CellsAre cm cs news) : ∀ {z : Str} {c : Addr}, cs.lookup z = some c → ∃ o, (c, o) ∈ news ∧ o.data = .cell (cm z) := by
  induction x with
  | nil => intro z c h; cases h
  | @cons n c' o cs news hd _ ih =>
    intro z c h
    rw [List.lookup_cons] at h
    cases hb : z == n with
    | true =>
      rw [hb] at h
      have e := eq_of_beq hb
      subst e
      cases h
      exact ⟨o, .head _, hd⟩
    | false =>
      rw [hb] at h
      refine xE1A1 (ih h) fun o' h1 h2 => ?_
      exact ⟨o', .tail _ h1, h2⟩
theorem ints_reps {h : Heap} {vals : List Value} {l : List Int} (a : PyProof.Rows.IntsAre vals l) : Reps h vals (l.map .int) := by
  induction a with
  | nil => exact .nil
  | cons n t _ ih => exact .cons (.int n t) ih
theorem scLaw_kind : scLaw.kind = .function := by decide +kernel
theorem scLaw_free : scLaw.names.all (fun x => x.2 != .free) = true := by decide +kernel
theorem scLaw_script : scLaw.names.lookup ("script" : Str) = some NameKind.local := by decide +kernel
theorem joinW {C : Cx} (hK : C.K = KK C.w.params) {nm : Str} {L fa : Addr} {cd : Value} {sl : Addr} {zs : List Int} {vals : List Value} {m cm : Str → Option Value} {news : List (Addr × Obj)} {s : Shared} {Q : Flow → Shared → Prop} {E : Value → Shared → Prop}
    (F : PyProof.Rows.Fr C.h₀ L s.heap m) (N : PyProof.Rows.News C.h₀ L s.heap news) (X : PyProof.Rows.CellsAre cm (cellsFrom (L + 1) scLaw.names []) news)
    (hL : C.h₀.IsList sl vals.toArray) (hI : PyProof.Rows.IntsAre vals zs) (hl : zs.length ≤ 63) (hm : m "script" = some (.ref sl))
    (k : ∀ s', (∀ b o, C.h₀.get? b = some o → s'.heap.get? b = some o) → s'.gens = s.gens → s'.os = s.os → Q (.ret (.bool true)) s') :
    wpAny (model C.prog C.w) (callerA.deeper (envLaw nm L fa cd)) (execs bdLaw (envLaw nm L fa cd)) Q E s := by
  have g : Grd C sl (zs.map .int) := by
    refine xE1A2 hL fun o he hc hz1_ => ?_
    try clear hL
    refine xE1A0 hz1_ fun n hd => ?_
    clear hz1_
    exact ⟨o, vals.toArray, n, he, hc, hd, by simpa using ints_reps hI⟩
  have hk1 : ∀ {x : Str} {v : V}, setL (fun _ => none) "script" (.ref sl) x = some v → x = "script" ∧ v = .ref sl := fun {x v} e => by
    unfold setL at e
    split at e
    · rename_i q
      exact ⟨by simpa using q, (Option.some.inj e).symm⟩
    · cases e
  have own : ∀ b, Own (envLaw nm L fa cd) b → C.h₀.get? b = none := fun b hb => by
    rcases hb with rfl | ⟨z, hz⟩
    · exact Heap.get?_none_of_le F.above
    · refine xE1A1 (cells_get X hz) fun o h1 _ => ?_
      exact N.fresh h1
  have at_ : At C s.heap (fun _ => none) := ⟨F.keep, fun _ _ e => (nomatch e), fun _ _ e => (nomatch e)⟩
  have fo : Fo C s.heap (fun _ => none) (envLaw nm L fa cd) (setL (fun _ => none) "script" (.ref sl)) := by
    refine ⟨scLaw_kind, rfl, rfl, ⟨m, F.ns, fun x v e _ => ?_⟩, fun x c hc => ?_, fun z hz => ?_, fun z y c hz hy => ?_, fun b hb => ⟨own b hb, rfl⟩⟩
    · refine xE0A1 (hk1 e) fun hr2_ hr3_ => ?_
      obtain rfl := hr2_
      obtain rfl := hr3_
      exact ⟨_, hm, .ref _⟩
    · refine xE1A1 (cells_get X hc) fun o h1 h2 => ?_
      refine ⟨o, _, N.get h1, h2, fun v e hz => ?_⟩
      refine xE0A1 (hk1 e) fun hr4_ hr5_ => ?_
      obtain rfl := hr4_
      obtain rfl := hr5_
      have q : (envLaw nm L fa cd).kindOf "script" = some .local := scLaw_script
      rcases hz with hz | hz <;> rw [q] at hz <;> cases hz
    · have hz' : scLaw.names.lookup z = some .cell := by
        rcases hz with hz | hz
        · exact hz
        · have := List.all_eq_true.mp scLaw_free _ (mem_lookup (show scLaw.names.lookup z = some .free from hz))
          simp at this
      exact Option.isSome_iff_exists.mp (cellsFrom_has scLaw.names (L + 1) [] (.inl (mem_lookup hz')))
    · exact name_of_addr (cellsFrom_apart scLaw.names (L + 1) [] .nil (fun _ h => (nomatch h))) (mem_lookup hz) (mem_lookup hy)
  refine lawAll (X := XT.no ..) (P := fun fl _ _ => fl = .ret (.bool true)) hK g hl (setL_same _ _ _) (setL_ne (by decide +kernel) rfl) (fun _ _ => rfl) (callerA.deeper (envLaw nm L fa cd)) s Q E ⟨⟨rfl, by show 1 + claimMargin + 1 + 8 * 9 + 20 < 1000; decide +kernel, by show 4 + 3 + 20 * 9 + 400 < 9900; decide⟩, Around.frames_deeper (A := callerA) rfl⟩ at_ fo (fun f fl s' loc' σ' e1 e2 e3 e4 e5 => ?_) fun _ _ q => q.elim
  subst e5
  cases e1 with | ret hv => cases hv; exact k s' e2.keep e4.gens e4.os
end Mine
end
open PySem PySem.W PyProof.Rows
set_option maxRecDepth 100000 in
set_option maxHeartbeats 8000000 in
theorem PySem.Challenge.cw_rh0107_01_holds : PySem.Challenge.rw_rh0107_01.Holds :=
  Mine.hd (by
  k_go0
  rename_i mb G Y fa o pm doc ho hg KX X V GL T B TE TW ww ww2 M wa wb hcd zs hs hlay0 hL0 hr0 hl2 wl1 wl2 sl vals wl3 hL ra w1 r0 hI hr hc1 hc2 K0 hD h₁ tk₁ F wc1 wc2 wc3 wc4 l1 l2 l3 l4 N0 X0
  refine Mine.joinW (C := ⟨_, _, Mine.hd.heap_39 _, _, _, _, _, _, KX, topRead_of T, ?_⟩) rfl F N0 X0 hL hI ?_ ?_ ?_
  · exact GL.seer.mods.elim fun _ z => z.1.elim fun o z => z.elim fun _ z => z.elim fun _ z => ⟨o, z.1⟩
  · omega
  · rfl
  · intro s' k1 k2 k3
    exact ⟨.inl ⟨_, _, _, rfl, raisesW_false (by wrow_none_raised), .bool true, by wrow_post, unshared_nil⟩, k1, k3, k2.trans hg⟩)
