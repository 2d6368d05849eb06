import PyProof.Rows.All
import Wide.All
import OpenK.AllK
import Wide.FinOn
import Lean
import PySem.Challenge.RW_rg0222_01
open PySem PySem.W PyProof.Rows PySem.Calls PyProof.V
set_option Elab.async false
set_option linter.unusedVariables false
set_option maxRecDepth 100000
namespace Mine
set_option maxHeartbeats 0
theorem same_names : @PySem.W.namesOk = @PySem.W.namesOk := rfl
name_quick tw9537544019596298400 for PySem.W.namesOk by Mine.same_names
name_quick tw16413963553889246368 for PySem.W.namesOk by Mine.same_names
name_quick tw12268644228514654432 for PySem.W.namesOk by Mine.same_names
name_quick tw14031254098957005024 for PySem.W.namesOk by Mine.same_names
name_quick tw14224011070414065920 for PySem.W.namesOk by Mine.same_names
name_quick tw10015664371746657536 for PySem.W.namesOk by Mine.same_names
name_quick tw2193789692954389824 for PySem.W.namesOk by Mine.same_names
name_quick tw17325535178939296128 for PySem.W.namesOk by Mine.same_names
name_quick tw5832503352825792928 for PySem.W.namesOk by Mine.same_names
name_quick tw6891000109920058784 for PySem.W.namesOk by Mine.same_names
name_quick tw5976474108018559520 for PySem.W.namesOk by Mine.same_names
name_quick tw15376083050721069600 for PySem.W.namesOk by Mine.same_names
name_quick tw12825359941727978080 for PySem.W.namesOk by Mine.same_names
name_quick tw4110589180456253056 for PySem.W.namesOk by Mine.same_names
name_quick tw16328912562034613984 for PySem.W.namesOk by Mine.same_names
name_quick tw9674257727999782656 for PySem.W.namesOk by Mine.same_names
name_quick tw16817318245366136608 for PySem.W.namesOk by Mine.same_names
name_quick tw12177649209318274912 for PySem.W.namesOk by Mine.same_names
name_quick tw7483462131439158144 for PySem.W.namesOk by Mine.same_names
name_quick tw11256389202845128640 for PySem.W.namesOk by Mine.same_names
name_quick tw3118938333895590913 for PySem.W.namesOk by Mine.same_names
name_quick tw8459811325457737761 for PySem.W.namesOk by Mine.same_names
name_quick tw6182678533730793537 for PySem.W.namesOk by Mine.same_names
name_quick tw5386766301290243201 for PySem.W.namesOk by Mine.same_names
name_quick tw12945968074294007009 for PySem.W.namesOk by Mine.same_names
name_quick tw5721027456603625697 for PySem.W.namesOk by Mine.same_names
name_quick tw3764465048917985505 for PySem.W.namesOk by Mine.same_names
name_quick tw16741492637210864865 for PySem.W.namesOk by Mine.same_names
name_quick tw7670514497116975361 for PySem.W.namesOk by Mine.same_names
name_quick tw14821650378409806113 for PySem.W.namesOk by Mine.same_names
name_quick tw11543547407058413889 for PySem.W.namesOk by Mine.same_names
name_quick tw16180582048198870337 for PySem.W.namesOk by Mine.same_names
name_quick tw2315820567201803617 for PySem.W.namesOk by Mine.same_names
name_quick tw7405434945208526273 for PySem.W.namesOk by Mine.same_names
name_quick tw2334299552400917057 for PySem.W.namesOk by Mine.same_names
name_quick tw8603108125212654177 for PySem.W.namesOk by Mine.same_names
name_quick tw17071476683966804577 for PySem.W.namesOk by Mine.same_names
name_quick tw16916688483869632129 for PySem.W.namesOk by Mine.same_names
name_quick tw15079194523842364033 for PySem.W.namesOk by Mine.same_names
name_quick tw17913803186225011329 for PySem.W.namesOk by Mine.same_names
name_quick tw15195428891847259777 for PySem.W.namesOk by Mine.same_names
name_quick tw11317593695737139937 for PySem.W.namesOk by Mine.same_names
name_quick tw15781324953245214433 for PySem.W.namesOk by Mine.same_names
name_quick tw13236226663087606529 for PySem.W.namesOk by Mine.same_names
name_quick tw6792406925840432001 for PySem.W.namesOk by Mine.same_names
name_quick tw6132934438814934913 for PySem.W.namesOk by Mine.same_names
name_quick tw11825729669827539873 for PySem.W.namesOk by Mine.same_names
name_quick tw1414301608579184545 for PySem.W.namesOk by Mine.same_names
name_quick tw12726346659333912481 for PySem.W.namesOk by Mine.same_names
name_quick tw9577309144901391297 for PySem.W.namesOk by Mine.same_names
name_quick tw12660628722211587041 for PySem.W.namesOk by Mine.same_names
name_quick tw7581816359482902497 for PySem.W.namesOk by Mine.same_names
name_quick tw930746551332336609 for PySem.W.namesOk by Mine.same_names
name_quick tw13615603153576403970 for PySem.W.namesOk by Mine.same_names
name_quick tw4613930686462287906 for PySem.W.namesOk by Mine.same_names
name_quick tw12850107946570832962 for PySem.W.namesOk by Mine.same_names
name_quick tw3856783459128436802 for PySem.W.namesOk by Mine.same_names
name_quick tw704327219915372674 for PySem.W.namesOk by Mine.same_names
name_quick tw9529234661008812162 for PySem.W.namesOk by Mine.same_names
name_quick tw9594665118957945026 for PySem.W.namesOk by Mine.same_names
name_quick tw17344680358763864322 for PySem.W.namesOk by Mine.same_names
name_quick tw9948023125614773506 for PySem.W.namesOk by Mine.same_names
name_quick tw14209830616999942402 for PySem.W.namesOk by Mine.same_names
name_quick tw16172117957621229858 for PySem.W.namesOk by Mine.same_names
name_quick tw17000458434675057986 for PySem.W.namesOk by Mine.same_names
name_quick tw12835720964997663042 for PySem.W.namesOk by Mine.same_names
name_quick tw4797165386629745026 for PySem.W.namesOk by Mine.same_names
name_quick tw3093977132361051618 for PySem.W.namesOk by Mine.same_names
name_quick tw13640514254501968386 for PySem.W.namesOk by Mine.same_names
name_quick tw12477758415327278626 for PySem.W.namesOk by Mine.same_names
name_quick tw387338674003428930 for PySem.W.namesOk by Mine.same_names
name_quick tw3797612339304411714 for PySem.W.namesOk by Mine.same_names
name_quick tw4558998842232669794 for PySem.W.namesOk by Mine.same_names
name_quick tw8795123598061512290 for PySem.W.namesOk by Mine.same_names
name_quick tw14714103240675001986 for PySem.W.namesOk by Mine.same_names
name_quick tw18371169792594650754 for PySem.W.namesOk by Mine.same_names
name_quick tw5152784196030571298 for PySem.W.namesOk by Mine.same_names
name_quick tw8595292554425487202 for PySem.W.namesOk by Mine.same_names
name_quick tw4302124980754421698 for PySem.W.namesOk by Mine.same_names
name_quick tw14909702598903578594 for PySem.W.namesOk by Mine.same_names
name_quick tw2571919107429820419 for PySem.W.namesOk by Mine.same_names
name_quick tw15475462885187679331 for PySem.W.namesOk by Mine.same_names
name_quick tw11788150170368784547 for PySem.W.namesOk by Mine.same_names
name_quick tw2922074901204462755 for PySem.W.namesOk by Mine.same_names
name_quick tw13853819408611901635 for PySem.W.namesOk by Mine.same_names
name_quick tw11817470609975844035 for PySem.W.namesOk by Mine.same_names
name_quick tw17001327861769816259 for PySem.W.namesOk by Mine.same_names
name_quick tw13725850141900786883 for PySem.W.namesOk by Mine.same_names
name_quick tw13789449189825218787 for PySem.W.namesOk by Mine.same_names
name_quick tw7286323032743288035 for PySem.W.namesOk by Mine.same_names
name_quick tw15247426752500302083 for PySem.W.namesOk by Mine.same_names
name_quick tw11166942722945506595 for PySem.W.namesOk by Mine.same_names
name_quick tw12182807814244774211 for PySem.W.namesOk by Mine.same_names
name_quick tw16280195873916505411 for PySem.W.namesOk by Mine.same_names
name_quick tw15542691292777871779 for PySem.W.namesOk by Mine.same_names
name_quick tw3658093133387280835 for PySem.W.namesOk by Mine.same_names
name_quick tw3365093317950918147 for PySem.W.namesOk by Mine.same_names
name_quick tw11310463157757771331 for PySem.W.namesOk by Mine.same_names
name_quick tw17863021456227041891 for PySem.W.namesOk by Mine.same_names
name_quick tw136631920214876835 for PySem.W.namesOk by Mine.same_names
name_quick tw4978915544186085027 for PySem.W.namesOk by Mine.same_names
name_quick tw14096952598973939363 for PySem.W.namesOk by Mine.same_names
name_quick tw16366562015402752707 for PySem.W.namesOk by Mine.same_names
name_quick tw151948405760981731 for PySem.W.namesOk by Mine.same_names
name_quick tw7401281599722004195 for PySem.W.namesOk by Mine.same_names
name_quick tw774047393022817027 for PySem.W.namesOk by Mine.same_names
name_quick tw10887116778572429059 for PySem.W.namesOk by Mine.same_names
name_quick tw10190238754879171395 for PySem.W.namesOk by Mine.same_names
name_quick tw3315324234476444515 for PySem.W.namesOk by Mine.same_names
name_quick tw14981143343336467331 for PySem.W.namesOk by Mine.same_names
name_quick tw2599325451414397859 for PySem.W.namesOk by Mine.same_names
name_quick tw505943868828395459 for PySem.W.namesOk by Mine.same_names
name_quick tw12807690338718825411 for PySem.W.namesOk by Mine.same_names
name_quick tw7232422423428716515 for PySem.W.namesOk by Mine.same_names
name_quick tw1638017585896720355 for PySem.W.namesOk by Mine.same_names
name_quick tw2968979199505139716 for PySem.W.namesOk by Mine.same_names
name_quick tw7499937903120025604 for PySem.W.namesOk by Mine.same_names
name_quick tw1258299570235058372 for PySem.W.namesOk by Mine.same_names
name_quick tw7299951869573292228 for PySem.W.namesOk by Mine.same_names
name_quick tw4039474712603431140 for PySem.W.namesOk by Mine.same_names
name_quick tw17532718790514356516 for PySem.W.namesOk by Mine.same_names
name_quick tw17274371674624000324 for PySem.W.namesOk by Mine.same_names
name_quick tw4525517667737911620 for PySem.W.namesOk by Mine.same_names
name_quick tw10007627690174824804 for PySem.W.namesOk by Mine.same_names
name_quick tw3256587380925597060 for PySem.W.namesOk by Mine.same_names
name_quick tw11740888236361828772 for PySem.W.namesOk by Mine.same_names
name_quick tw10042830170769951172 for PySem.W.namesOk by Mine.same_names
name_quick tw12734952128020822468 for PySem.W.namesOk by Mine.same_names
name_quick tw3879119161268392484 for PySem.W.namesOk by Mine.same_names
name_quick tw12392613427281201732 for PySem.W.namesOk by Mine.same_names
name_quick tw8656719876789144132 for PySem.W.namesOk by Mine.same_names
name_quick tw12233582284571471492 for PySem.W.namesOk by Mine.same_names
name_quick tw9736788993784561348 for PySem.W.namesOk by Mine.same_names
name_quick tw17975652961387846372 for PySem.W.namesOk by Mine.same_names
name_quick tw17597117872661017316 for PySem.W.namesOk by Mine.same_names
name_quick tw15168306246750427876 for PySem.W.namesOk by Mine.same_names
name_quick tw3386650904741475044 for PySem.W.namesOk by Mine.same_names
name_quick tw7269565832213808900 for PySem.W.namesOk by Mine.same_names
name_quick tw10317580896714288900 for PySem.W.namesOk by Mine.same_names
name_quick tw6587116730350146372 for PySem.W.namesOk by Mine.same_names
name_quick tw1763209079605825380 for PySem.W.namesOk by Mine.same_names
name_quick tw16350708796919097252 for PySem.W.namesOk by Mine.same_names
name_quick tw10424941004445345732 for PySem.W.namesOk by Mine.same_names
name_quick tw4224760802259116069 for PySem.W.namesOk by Mine.same_names
name_quick tw14157033200169142405 for PySem.W.namesOk by Mine.same_names
name_quick tw9136488742655976645 for PySem.W.namesOk by Mine.same_names
name_quick tw8703263022893421829 for PySem.W.namesOk by Mine.same_names
name_quick tw15278061642289888581 for PySem.W.namesOk by Mine.same_names
name_quick tw17672482021469178181 for PySem.W.namesOk by Mine.same_names
name_quick tw3442601649717412197 for PySem.W.namesOk by Mine.same_names
name_quick tw196644378293983589 for PySem.W.namesOk by Mine.same_names
name_quick tw8610040677353227653 for PySem.W.namesOk by Mine.same_names
name_quick tw8621552478659558853 for PySem.W.namesOk by Mine.same_names
name_quick tw1402947280878808549 for PySem.W.namesOk by Mine.same_names
name_quick tw16655555454665732581 for PySem.W.namesOk by Mine.same_names
name_quick tw2039238271031011813 for PySem.W.namesOk by Mine.same_names
name_quick tw8777329075199875621 for PySem.W.namesOk by Mine.same_names
name_quick tw18350330562280901221 for PySem.W.namesOk by Mine.same_names
name_quick tw13925586954763233925 for PySem.W.namesOk by Mine.same_names
name_quick tw15323854079317868165 for PySem.W.namesOk by Mine.same_names
name_quick tw8704618095886561957 for PySem.W.namesOk by Mine.same_names
name_quick tw5289962621202845349 for PySem.W.namesOk by Mine.same_names
name_quick tw13121200027793486533 for PySem.W.namesOk by Mine.same_names
name_quick tw13141144453892091621 for PySem.W.namesOk by Mine.same_names
name_quick tw18416463498863911781 for PySem.W.namesOk by Mine.same_names
name_quick tw13607416678640721797 for PySem.W.namesOk by Mine.same_names
name_quick tw189603312586018693 for PySem.W.namesOk by Mine.same_names
name_quick tw5149714755402479525 for PySem.W.namesOk by Mine.same_names
name_quick tw11707433790658880453 for PySem.W.namesOk by Mine.same_names
name_quick tw16049961110935095269 for PySem.W.namesOk by Mine.same_names
name_quick tw7561037823649445926 for PySem.W.namesOk by Mine.same_names
name_quick tw16904869804480856166 for PySem.W.namesOk by Mine.same_names
name_quick tw14778209649434054790 for PySem.W.namesOk by Mine.same_names
name_quick tw12540713548012372134 for PySem.W.namesOk by Mine.same_names
name_quick tw8253183596043897158 for PySem.W.namesOk by Mine.same_names
name_quick tw17993156020533580102 for PySem.W.namesOk by Mine.same_names
name_quick tw645008353064770918 for PySem.W.namesOk by Mine.same_names
name_quick tw15133509641930783078 for PySem.W.namesOk by Mine.same_names
name_quick tw3865406201487662470 for PySem.W.namesOk by Mine.same_names
name_quick tw14973007898608030118 for PySem.W.namesOk by Mine.same_names
name_quick tw17024950926791866790 for PySem.W.namesOk by Mine.same_names
name_quick tw14952990662201256454 for PySem.W.namesOk by Mine.same_names
name_quick tw7543618554067911206 for PySem.W.namesOk by Mine.same_names
name_quick tw7581352650102555174 for PySem.W.namesOk by Mine.same_names
name_quick tw447715330943862342 for PySem.W.namesOk by Mine.same_names
name_quick tw4933834842325187142 for PySem.W.namesOk by Mine.same_names
name_quick tw9281714027785469542 for PySem.W.namesOk by Mine.same_names
name_quick tw8385612375773290118 for PySem.W.namesOk by Mine.same_names
name_quick tw4858009861420398278 for PySem.W.namesOk by Mine.same_names
name_quick tw16145008321745377990 for PySem.W.namesOk by Mine.same_names
name_quick tw3695515675974049574 for PySem.W.namesOk by Mine.same_names
name_quick tw5248340912204065574 for PySem.W.namesOk by Mine.same_names
name_quick tw764782834095389478 for PySem.W.namesOk by Mine.same_names
name_quick tw17842620306162639686 for PySem.W.namesOk by Mine.same_names
name_quick tw6607189417530752870 for PySem.W.namesOk by Mine.same_names
name_quick tw10058976618658966374 for PySem.W.namesOk by Mine.same_names
name_quick tw6944952908185719654 for PySem.W.namesOk by Mine.same_names
name_quick tw13169248704851481478 for PySem.W.namesOk by Mine.same_names
name_quick tw183835017167291270 for PySem.W.namesOk by Mine.same_names
name_quick tw7987952416473584550 for PySem.W.namesOk by Mine.same_names
name_quick tw17475289236778735526 for PySem.W.namesOk by Mine.same_names
name_quick tw7250012664060256230 for PySem.W.namesOk by Mine.same_names
name_quick tw13512673800721320934 for PySem.W.namesOk by Mine.same_names
name_quick tw18220123701641295943 for PySem.W.namesOk by Mine.same_names
name_quick tw16979880578912567463 for PySem.W.namesOk by Mine.same_names
name_quick tw16643706677886111943 for PySem.W.namesOk by Mine.same_names
name_quick tw15020028541594565831 for PySem.W.namesOk by Mine.same_names
name_quick tw15300170045991075079 for PySem.W.namesOk by Mine.same_names
name_quick tw5210642151733841191 for PySem.W.namesOk by Mine.same_names
name_quick tw11588390666370768167 for PySem.W.namesOk by Mine.same_names
name_quick tw11682084944484805031 for PySem.W.namesOk by Mine.same_names
name_quick tw1495452243305574823 for PySem.W.namesOk by Mine.same_names
name_quick tw1355338860687761863 for PySem.W.namesOk by Mine.same_names
name_quick tw4319705520415482375 for PySem.W.namesOk by Mine.same_names
name_quick tw9862997608875712007 for PySem.W.namesOk by Mine.same_names
name_quick tw14305139224198610471 for PySem.W.namesOk by Mine.same_names
name_quick tw1537898542681612871 for PySem.W.namesOk by Mine.same_names
name_quick tw4090926877573551719 for PySem.W.namesOk by Mine.same_names
name_quick tw15980859228951719591 for PySem.W.namesOk by Mine.same_names
name_quick tw13252181687094117063 for PySem.W.namesOk by Mine.same_names
name_quick tw1085346719588807367 for PySem.W.namesOk by Mine.same_names
name_quick tw2504098582860672743 for PySem.W.namesOk by Mine.same_names
name_quick tw15900120412870309639 for PySem.W.namesOk by Mine.same_names
name_quick tw14326252917377295143 for PySem.W.namesOk by Mine.same_names
name_quick tw11270796479367742343 for PySem.W.namesOk by Mine.same_names
name_quick tw14934708107589980039 for PySem.W.namesOk by Mine.same_names
name_quick tw17230556039016184743 for PySem.W.namesOk by Mine.same_names
name_quick tw3633577522364906407 for PySem.W.namesOk by Mine.same_names
name_quick tw10073347824450446311 for PySem.W.namesOk by Mine.same_names
name_quick tw9794667896261083176 for PySem.W.namesOk by Mine.same_names
name_quick tw5770868932273138760 for PySem.W.namesOk by Mine.same_names
name_quick tw5555313912996828296 for PySem.W.namesOk by Mine.same_names
name_quick tw686183698351167624 for PySem.W.namesOk by Mine.same_names
name_quick tw2611137233208623240 for PySem.W.namesOk by Mine.same_names
name_quick tw10314498396905981064 for PySem.W.namesOk by Mine.same_names
name_quick tw15423634916342008072 for PySem.W.namesOk by Mine.same_names
name_quick tw10455430044892516648 for PySem.W.namesOk by Mine.same_names
name_quick tw1370275717833778536 for PySem.W.namesOk by Mine.same_names
name_quick tw11495947367809530248 for PySem.W.namesOk by Mine.same_names
name_quick tw13900631225919944168 for PySem.W.namesOk by Mine.same_names
name_quick tw9285146279643344392 for PySem.W.namesOk by Mine.same_names
name_quick tw16437185098154296904 for PySem.W.namesOk by Mine.same_names
name_quick tw11767421526060770920 for PySem.W.namesOk by Mine.same_names
name_quick tw6832808476680081064 for PySem.W.namesOk by Mine.same_names
name_quick tw3470799630455053000 for PySem.W.namesOk by Mine.same_names
name_quick tw16223305294053301992 for PySem.W.namesOk by Mine.same_names
name_quick tw4658958612460137192 for PySem.W.namesOk by Mine.same_names
name_quick tw6291368078380397288 for PySem.W.namesOk by Mine.same_names
name_quick tw13427988762788590312 for PySem.W.namesOk by Mine.same_names
name_quick tw6434138532213402376 for PySem.W.namesOk by Mine.same_names
name_quick tw3131671291697673992 for PySem.W.namesOk by Mine.same_names
name_quick tw17815586953681464072 for PySem.W.namesOk by Mine.same_names
name_quick tw5882768191206486792 for PySem.W.namesOk by Mine.same_names
name_quick tw5200128776193632040 for PySem.W.namesOk by Mine.same_names
name_quick tw16697116713213952808 for PySem.W.namesOk by Mine.same_names
name_quick tw7112787868492120936 for PySem.W.namesOk by Mine.same_names
name_quick tw3880421473898291048 for PySem.W.namesOk by Mine.same_names
name_quick tw3826639566459466600 for PySem.W.namesOk by Mine.same_names
name_quick tw18101931140130867144 for PySem.W.namesOk by Mine.same_names
name_quick tw17111948838632640456 for PySem.W.namesOk by Mine.same_names
name_quick tw13804622635509601256 for PySem.W.namesOk by Mine.same_names
name_quick tw14108194823987119177 for PySem.W.namesOk by Mine.same_names
name_quick tw3345107109950449737 for PySem.W.namesOk by Mine.same_names
name_quick tw7788680626742099145 for PySem.W.namesOk by Mine.same_names
name_quick tw14837249469386935497 for PySem.W.namesOk by Mine.same_names
name_quick tw10938465397075749097 for PySem.W.namesOk by Mine.same_names
name_quick tw1333364371103165705 for PySem.W.namesOk by Mine.same_names
name_quick tw17000155066101142889 for PySem.W.namesOk by Mine.same_names
name_quick tw12981051755390344553 for PySem.W.namesOk by Mine.same_names
name_quick tw757081541053455785 for PySem.W.namesOk by Mine.same_names
name_quick tw8424611434330503625 for PySem.W.namesOk by Mine.same_names
name_quick tw3039592710220408265 for PySem.W.namesOk by Mine.same_names
name_quick tw16432479971616331241 for PySem.W.namesOk by Mine.same_names
name_quick tw2001226814458364393 for PySem.W.namesOk by Mine.same_names
name_quick tw14907048974825807369 for PySem.W.namesOk by Mine.same_names
name_quick tw12577023982554244617 for PySem.W.namesOk by Mine.same_names
name_quick tw14834023430324568649 for PySem.W.namesOk by Mine.same_names
name_quick tw5068434257544371817 for PySem.W.namesOk by Mine.same_names
name_quick tw11036193050239951465 for PySem.W.namesOk by Mine.same_names
name_quick tw1210750091971509897 for PySem.W.namesOk by Mine.same_names
name_quick tw2902314222560053993 for PySem.W.namesOk by Mine.same_names
name_quick tw12172078356533094185 for PySem.W.namesOk by Mine.same_names
name_quick tw43969757491396457 for PySem.W.namesOk by Mine.same_names
name_quick tw3976722010076183465 for PySem.W.namesOk by Mine.same_names
name_quick tw7574553109774388169 for PySem.W.namesOk by Mine.same_names
name_quick tw8999186272805695465 for PySem.W.namesOk by Mine.same_names
name_quick tw8796240567053077481 for PySem.W.namesOk by Mine.same_names
name_quick tw9626621113073979434 for PySem.W.namesOk by Mine.same_names
name_quick tw8172093975534723114 for PySem.W.namesOk by Mine.same_names
name_quick tw14311459727803291754 for PySem.W.namesOk by Mine.same_names
name_quick tw7082770336023389322 for PySem.W.namesOk by Mine.same_names
name_quick tw1320183511955256522 for PySem.W.namesOk by Mine.same_names
name_quick tw3094477031063562474 for PySem.W.namesOk by Mine.same_names
name_quick tw1536587703002861866 for PySem.W.namesOk by Mine.same_names
name_quick tw6980910045739468074 for PySem.W.namesOk by Mine.same_names
name_quick tw1886563365779066154 for PySem.W.namesOk by Mine.same_names
name_quick tw1102190903223815498 for PySem.W.namesOk by Mine.same_names
name_quick tw13981391230805400906 for PySem.W.namesOk by Mine.same_names
name_quick tw4921902886906138986 for PySem.W.namesOk by Mine.same_names
name_quick tw2077871619930789226 for PySem.W.namesOk by Mine.same_names
name_quick tw1615719349143574890 for PySem.W.namesOk by Mine.same_names
name_quick tw10970087489707964778 for PySem.W.namesOk by Mine.same_names
name_quick tw5349121933718820234 for PySem.W.namesOk by Mine.same_names
name_quick tw17774800907425398282 for PySem.W.namesOk by Mine.same_names
name_quick tw17020626225693228618 for PySem.W.namesOk by Mine.same_names
name_quick tw15034313371233782410 for PySem.W.namesOk by Mine.same_names
name_quick tw1379578315556383370 for PySem.W.namesOk by Mine.same_names
name_quick tw3768068617246420682 for PySem.W.namesOk by Mine.same_names
name_quick tw14333388528381170442 for PySem.W.namesOk by Mine.same_names
name_quick tw12679591844961189642 for PySem.W.namesOk by Mine.same_names
name_quick tw9800571698397750058 for PySem.W.namesOk by Mine.same_names
name_quick tw13314330512976039754 for PySem.W.namesOk by Mine.same_names
name_quick tw8488268690174267210 for PySem.W.namesOk by Mine.same_names
name_quick tw17099577554837492554 for PySem.W.namesOk by Mine.same_names
name_quick tw5228443966233409354 for PySem.W.namesOk by Mine.same_names
name_quick tw1204117194425446250 for PySem.W.namesOk by Mine.same_names
name_quick tw16885365298920065930 for PySem.W.namesOk by Mine.same_names
name_quick tw18260038339965228139 for PySem.W.namesOk by Mine.same_names
name_quick tw10500077913531017323 for PySem.W.namesOk by Mine.same_names
name_quick tw14185684948912167051 for PySem.W.namesOk by Mine.same_names
name_quick tw8727135674562949291 for PySem.W.namesOk by Mine.same_names
name_quick tw6135381517318000843 for PySem.W.namesOk by Mine.same_names
name_quick tw16966814322356759819 for PySem.W.namesOk by Mine.same_names
name_quick tw4109823476700235019 for PySem.W.namesOk by Mine.same_names
name_quick tw383695940523520267 for PySem.W.namesOk by Mine.same_names
name_quick tw5450187663091677483 for PySem.W.namesOk by Mine.same_names
name_quick tw12813236842856870187 for PySem.W.namesOk by Mine.same_names
name_quick tw932993149863042379 for PySem.W.namesOk by Mine.same_names
name_quick tw11013792430000457035 for PySem.W.namesOk by Mine.same_names
name_quick tw17318589155259679147 for PySem.W.namesOk by Mine.same_names
name_quick tw8032284361305108907 for PySem.W.namesOk by Mine.same_names
name_quick tw5565278806992967083 for PySem.W.namesOk by Mine.same_names
name_quick tw3545756843259802059 for PySem.W.namesOk by Mine.same_names
name_quick tw8654737378357257675 for PySem.W.namesOk by Mine.same_names
name_quick tw5902227825499142635 for PySem.W.namesOk by Mine.same_names
name_quick tw13002492023102617099 for PySem.W.namesOk by Mine.same_names
name_quick tw12095823642532355627 for PySem.W.namesOk by Mine.same_names
name_quick tw618205885557783147 for PySem.W.namesOk by Mine.same_names
name_quick tw6148621092414575339 for PySem.W.namesOk by Mine.same_names
name_quick tw3327986453032591115 for PySem.W.namesOk by Mine.same_names
name_quick tw3362959441861295915 for PySem.W.namesOk by Mine.same_names
name_quick tw13160144027095335755 for PySem.W.namesOk by Mine.same_names
name_quick tw18163462532019968843 for PySem.W.namesOk by Mine.same_names
name_quick tw9396933662098498411 for PySem.W.namesOk by Mine.same_names
name_quick tw12731603968600162155 for PySem.W.namesOk by Mine.same_names
name_quick tw3302314484089059179 for PySem.W.namesOk by Mine.same_names
name_quick tw12359285113459375979 for PySem.W.namesOk by Mine.same_names
name_quick tw7733015712792483723 for PySem.W.namesOk by Mine.same_names
name_quick tw14489655085307688843 for PySem.W.namesOk by Mine.same_names
name_quick tw13580328829973926956 for PySem.W.namesOk by Mine.same_names
name_quick tw1184552218554016812 for PySem.W.namesOk by Mine.same_names
name_quick tw16189536214700107852 for PySem.W.namesOk by Mine.same_names
name_quick tw1267870562809915468 for PySem.W.namesOk by Mine.same_names
name_quick tw4980102563643897964 for PySem.W.namesOk by Mine.same_names
name_quick tw4278798014809849964 for PySem.W.namesOk by Mine.same_names
name_quick tw4071324889030633612 for PySem.W.namesOk by Mine.same_names
name_quick tw17082801352038058188 for PySem.W.namesOk by Mine.same_names
name_quick tw9951705424602377420 for PySem.W.namesOk by Mine.same_names
name_quick tw12494133203773749484 for PySem.W.namesOk by Mine.same_names
name_quick tw11161088081135249708 for PySem.W.namesOk by Mine.same_names
name_quick tw5143631309655554476 for PySem.W.namesOk by Mine.same_names
name_quick tw4636218855388986860 for PySem.W.namesOk by Mine.same_names
name_quick tw17045043414572947948 for PySem.W.namesOk by Mine.same_names
name_quick tw1735497430108182060 for PySem.W.namesOk by Mine.same_names
name_quick tw18123110421147349612 for PySem.W.namesOk by Mine.same_names
name_quick tw5925582254088234700 for PySem.W.namesOk by Mine.same_names
name_quick tw14979626087600564940 for PySem.W.namesOk by Mine.same_names
name_quick tw2134368852220247820 for PySem.W.namesOk by Mine.same_names
name_quick tw1156252341971683116 for PySem.W.namesOk by Mine.same_names
name_quick tw6434265647005701932 for PySem.W.namesOk by Mine.same_names
name_quick tw5315457868209417068 for PySem.W.namesOk by Mine.same_names
name_quick tw4775785305629353868 for PySem.W.namesOk by Mine.same_names
name_quick tw4879560196417449868 for PySem.W.namesOk by Mine.same_names
name_quick tw9515652053505349548 for PySem.W.namesOk by Mine.same_names
name_quick tw6127375697748050860 for PySem.W.namesOk by Mine.same_names
name_quick tw2354101950205528012 for PySem.W.namesOk by Mine.same_names
name_quick tw8642067239939848140 for PySem.W.namesOk by Mine.same_names
name_quick tw10833955939284561965 for PySem.W.namesOk by Mine.same_names
name_quick tw11306939235166856333 for PySem.W.namesOk by Mine.same_names
name_quick tw4042386549635913901 for PySem.W.namesOk by Mine.same_names
name_quick tw3952652319720093869 for PySem.W.namesOk by Mine.same_names
name_quick tw1617757218408452269 for PySem.W.namesOk by Mine.same_names
name_quick tw39160002569200845 for PySem.W.namesOk by Mine.same_names
name_quick tw5076957145309523181 for PySem.W.namesOk by Mine.same_names
name_quick tw10719484529398299949 for PySem.W.namesOk by Mine.same_names
name_quick tw13581749221687468397 for PySem.W.namesOk by Mine.same_names
name_quick tw482417222145425773 for PySem.W.namesOk by Mine.same_names
name_quick tw17027947056734134637 for PySem.W.namesOk by Mine.same_names
name_quick tw18386054884457128365 for PySem.W.namesOk by Mine.same_names
name_quick tw16374537267813192141 for PySem.W.namesOk by Mine.same_names
name_quick tw12371321757623732685 for PySem.W.namesOk by Mine.same_names
name_quick tw4679858250743294509 for PySem.W.namesOk by Mine.same_names
name_quick tw11838138170533393997 for PySem.W.namesOk by Mine.same_names
name_quick tw17846936440860909165 for PySem.W.namesOk by Mine.same_names
name_quick tw13036272033356848781 for PySem.W.namesOk by Mine.same_names
name_quick tw17020146562604978829 for PySem.W.namesOk by Mine.same_names
name_quick tw6990963922061375149 for PySem.W.namesOk by Mine.same_names
name_quick tw3282434896037501709 for PySem.W.namesOk by Mine.same_names
name_quick tw117213463901210413 for PySem.W.namesOk by Mine.same_names
name_quick tw15766043655864335149 for PySem.W.namesOk by Mine.same_names
name_quick tw16439824349840649037 for PySem.W.namesOk by Mine.same_names
name_quick tw9305782018832362445 for PySem.W.namesOk by Mine.same_names
name_quick tw14544052848187043789 for PySem.W.namesOk by Mine.same_names
name_quick tw17828083071136270317 for PySem.W.namesOk by Mine.same_names
name_quick tw18340240734955500558 for PySem.W.namesOk by Mine.same_names
name_quick tw14043711374191979534 for PySem.W.namesOk by Mine.same_names
name_quick tw12025208970609079342 for PySem.W.namesOk by Mine.same_names
name_quick tw8708707556590381134 for PySem.W.namesOk by Mine.same_names
name_quick tw148260917463534702 for PySem.W.namesOk by Mine.same_names
name_quick tw16292439048969090190 for PySem.W.namesOk by Mine.same_names
name_quick tw724751600484774222 for PySem.W.namesOk by Mine.same_names
name_quick tw1189734492583310 for PySem.W.namesOk by Mine.same_names
name_quick tw13180171748994924942 for PySem.W.namesOk by Mine.same_names
name_quick tw11566699232636054958 for PySem.W.namesOk by Mine.same_names
name_quick tw17679261114430710190 for PySem.W.namesOk by Mine.same_names
name_quick tw8579058602437062094 for PySem.W.namesOk by Mine.same_names
name_quick tw7276740287692124622 for PySem.W.namesOk by Mine.same_names
name_quick tw17026713947507217902 for PySem.W.namesOk by Mine.same_names
name_quick tw4318056027017086478 for PySem.W.namesOk by Mine.same_names
name_quick tw15919542637913265678 for PySem.W.namesOk by Mine.same_names
name_quick tw9458956999447867950 for PySem.W.namesOk by Mine.same_names
name_quick tw5923252988546675246 for PySem.W.namesOk by Mine.same_names
name_quick tw389472881494512206 for PySem.W.namesOk by Mine.same_names
name_quick tw8693227569615203950 for PySem.W.namesOk by Mine.same_names
name_quick tw6125931036764729998 for PySem.W.namesOk by Mine.same_names
name_quick tw1305609685974793870 for PySem.W.namesOk by Mine.same_names
name_quick tw900395245841561262 for PySem.W.namesOk by Mine.same_names
name_quick tw3306904295867340462 for PySem.W.namesOk by Mine.same_names
name_quick tw16644606511662114574 for PySem.W.namesOk by Mine.same_names
name_quick tw5706481520468235054 for PySem.W.namesOk by Mine.same_names
name_quick tw563124612126607214 for PySem.W.namesOk by Mine.same_names
name_quick tw441327347791068078 for PySem.W.namesOk by Mine.same_names
name_quick tw11985326045990495214 for PySem.W.namesOk by Mine.same_names
name_quick tw15823609455315575823 for PySem.W.namesOk by Mine.same_names
name_quick tw17429684086410527887 for PySem.W.namesOk by Mine.same_names
name_quick tw17596809139577655471 for PySem.W.namesOk by Mine.same_names
name_quick tw2948108419219029167 for PySem.W.namesOk by Mine.same_names
name_quick tw9206804518496725263 for PySem.W.namesOk by Mine.same_names
name_quick tw9575731206691268911 for PySem.W.namesOk by Mine.same_names
name_quick tw13721567128424951087 for PySem.W.namesOk by Mine.same_names
name_quick tw13471316229770301743 for PySem.W.namesOk by Mine.same_names
name_quick tw14186486079044719983 for PySem.W.namesOk by Mine.same_names
name_quick tw4434333111790514575 for PySem.W.namesOk by Mine.same_names
name_quick tw5758256569797452207 for PySem.W.namesOk by Mine.same_names
name_quick tw10040787053062605231 for PySem.W.namesOk by Mine.same_names
name_quick tw1620339239838986703 for PySem.W.namesOk by Mine.same_names
name_quick tw16758808235637498351 for PySem.W.namesOk by Mine.same_names
name_quick tw11853533878840232495 for PySem.W.namesOk by Mine.same_names
name_quick tw7950560144509940271 for PySem.W.namesOk by Mine.same_names
name_quick tw1916944219915559503 for PySem.W.namesOk by Mine.same_names
name_quick tw6722154040420286063 for PySem.W.namesOk by Mine.same_names
name_quick tw3209381107111851631 for PySem.W.namesOk by Mine.same_names
name_quick tw17164873540382356111 for PySem.W.namesOk by Mine.same_names
name_quick tw5247225353297040015 for PySem.W.namesOk by Mine.same_names
name_quick tw15560500314895047343 for PySem.W.namesOk by Mine.same_names
name_quick tw12488000419048109807 for PySem.W.namesOk by Mine.same_names
name_quick tw13526986893379352335 for PySem.W.namesOk by Mine.same_names
name_quick tw11462045893675790159 for PySem.W.namesOk by Mine.same_names
name_quick tw13871001218405608335 for PySem.W.namesOk by Mine.same_names
name_quick tw6967401301877209104 for PySem.W.namesOk by Mine.same_names
name_quick tw9759809726879904816 for PySem.W.namesOk by Mine.same_names
name_quick tw10010936943081839664 for PySem.W.namesOk by Mine.same_names
name_quick tw2078703811421203504 for PySem.W.namesOk by Mine.same_names
name_quick tw8946543629884556368 for PySem.W.namesOk by Mine.same_names
name_quick tw14273802060069496912 for PySem.W.namesOk by Mine.same_names
name_quick tw1869930749605803152 for PySem.W.namesOk by Mine.same_names
name_quick tw6834602518627153040 for PySem.W.namesOk by Mine.same_names
name_quick tw11707371222683016368 for PySem.W.namesOk by Mine.same_names
name_quick tw1574873078441994576 for PySem.W.namesOk by Mine.same_names
name_quick tw3698559305507148144 for PySem.W.namesOk by Mine.same_names
name_quick tw3777755567575978352 for PySem.W.namesOk by Mine.same_names
name_quick tw2478078296215019888 for PySem.W.namesOk by Mine.same_names
name_quick tw17803129079492736432 for PySem.W.namesOk by Mine.same_names
name_quick tw347637069881736656 for PySem.W.namesOk by Mine.same_names
name_quick tw4575980220486274672 for PySem.W.namesOk by Mine.same_names
name_quick tw535072334866317008 for PySem.W.namesOk by Mine.same_names
name_quick tw18428756778242999024 for PySem.W.namesOk by Mine.same_names
name_quick tw13987355940573415152 for PySem.W.namesOk by Mine.same_names
name_quick tw2719445374943340272 for PySem.W.namesOk by Mine.same_names
name_quick tw15041003319150489328 for PySem.W.namesOk by Mine.same_names
name_quick tw1690735587144091376 for PySem.W.namesOk by Mine.same_names
name_quick tw5135500740108067664 for PySem.W.namesOk by Mine.same_names
name_quick tw15755039735206942576 for PySem.W.namesOk by Mine.same_names
name_quick tw15207642765257501584 for PySem.W.namesOk by Mine.same_names
name_quick tw10948738476641704880 for PySem.W.namesOk by Mine.same_names
name_quick tw12526863579885937616 for PySem.W.namesOk by Mine.same_names
name_quick tw5423003317807263696 for PySem.W.namesOk by Mine.same_names
name_quick tw4191792578759629841 for PySem.W.namesOk by Mine.same_names
name_quick tw17827458813498177553 for PySem.W.namesOk by Mine.same_names
name_quick tw7009043117176579089 for PySem.W.namesOk by Mine.same_names
name_quick tw15112985482279097393 for PySem.W.namesOk by Mine.same_names
name_quick tw10670733350059645105 for PySem.W.namesOk by Mine.same_names
name_quick tw8075568018651887793 for PySem.W.namesOk by Mine.same_names
name_quick tw10460931487171540145 for PySem.W.namesOk by Mine.same_names
name_quick tw7323676302269181137 for PySem.W.namesOk by Mine.same_names
name_quick tw5936146933674214641 for PySem.W.namesOk by Mine.same_names
name_quick tw16474492168511960337 for PySem.W.namesOk by Mine.same_names
name_quick tw7275051467321613617 for PySem.W.namesOk by Mine.same_names
name_quick tw11790162104776037713 for PySem.W.namesOk by Mine.same_names
name_quick tw5697894365363955025 for PySem.W.namesOk by Mine.same_names
name_quick tw16289391198768371057 for PySem.W.namesOk by Mine.same_names
name_quick tw17172517015917474193 for PySem.W.namesOk by Mine.same_names
name_quick tw8649964590619651473 for PySem.W.namesOk by Mine.same_names
name_quick tw17434858337260393937 for PySem.W.namesOk by Mine.same_names
name_quick tw13254397897704925713 for PySem.W.namesOk by Mine.same_names
name_quick tw11625766737575182897 for PySem.W.namesOk by Mine.same_names
name_quick tw9821368406582625841 for PySem.W.namesOk by Mine.same_names
name_quick tw14285029430470858289 for PySem.W.namesOk by Mine.same_names
name_quick tw11796506867022685745 for PySem.W.namesOk by Mine.same_names
name_quick tw7057405563618977329 for PySem.W.namesOk by Mine.same_names
name_quick tw6380047634161181297 for PySem.W.namesOk by Mine.same_names
name_quick tw3740020263889925745 for PySem.W.namesOk by Mine.same_names
name_quick tw1423138165483278961 for PySem.W.namesOk by Mine.same_names
name_quick tw8047484207015712433 for PySem.W.namesOk by Mine.same_names
name_quick tw17018628822417861297 for PySem.W.namesOk by Mine.same_names
name_quick tw1092655722715705105 for PySem.W.namesOk by Mine.same_names
name_quick tw11863081143760314161 for PySem.W.namesOk by Mine.same_names
name_quick tw16176465441171805009 for PySem.W.namesOk by Mine.same_names
name_quick tw4949472239710415697 for PySem.W.namesOk by Mine.same_names
name_quick tw8017206721242287953 for PySem.W.namesOk by Mine.same_names
name_quick tw17057272898397164401 for PySem.W.namesOk by Mine.same_names
name_quick tw2118141222776746865 for PySem.W.namesOk by Mine.same_names
name_quick tw15902184279288820625 for PySem.W.namesOk by Mine.same_names
name_quick tw11445135464325071761 for PySem.W.namesOk by Mine.same_names
name_quick tw7344376507651311505 for PySem.W.namesOk by Mine.same_names
name_quick tw10939839348159177617 for PySem.W.namesOk by Mine.same_names
name_quick tw12898947447245864913 for PySem.W.namesOk by Mine.same_names
name_quick tw10487160056961263569 for PySem.W.namesOk by Mine.same_names
name_quick tw17517737089405305841 for PySem.W.namesOk by Mine.same_names
name_quick tw12393455550290869266 for PySem.W.namesOk by Mine.same_names
name_quick tw18410474027866654770 for PySem.W.namesOk by Mine.same_names
name_quick tw17719373434677690450 for PySem.W.namesOk by Mine.same_names
name_quick tw7140130562030077042 for PySem.W.namesOk by Mine.same_names
name_quick tw16792545251062261874 for PySem.W.namesOk by Mine.same_names
name_quick tw10138199336372458610 for PySem.W.namesOk by Mine.same_names
name_quick tw10819683100428557426 for PySem.W.namesOk by Mine.same_names
name_quick tw6517296806544964722 for PySem.W.namesOk by Mine.same_names
name_quick tw16339471991904476338 for PySem.W.namesOk by Mine.same_names
name_quick tw487364732245791922 for PySem.W.namesOk by Mine.same_names
name_quick tw16349216596472256690 for PySem.W.namesOk by Mine.same_names
name_quick tw5952267759425050802 for PySem.W.namesOk by Mine.same_names
name_quick tw17138261911001417010 for PySem.W.namesOk by Mine.same_names
name_quick tw5144633987255907666 for PySem.W.namesOk by Mine.same_names
name_quick tw10029231156530900338 for PySem.W.namesOk by Mine.same_names
name_quick tw2951486255847992690 for PySem.W.namesOk by Mine.same_names
name_quick tw5303519439607764402 for PySem.W.namesOk by Mine.same_names
name_quick tw17139780236743587250 for PySem.W.namesOk by Mine.same_names
name_quick tw16942194440817826258 for PySem.W.namesOk by Mine.same_names
name_quick tw9564595351457756722 for PySem.W.namesOk by Mine.same_names
name_quick tw16414604833108395602 for PySem.W.namesOk by Mine.same_names
name_quick tw951843321253372498 for PySem.W.namesOk by Mine.same_names
name_quick tw14884601019740666482 for PySem.W.namesOk by Mine.same_names
name_quick tw18126140380344562322 for PySem.W.namesOk by Mine.same_names
name_quick tw16593013826814733010 for PySem.W.namesOk by Mine.same_names
name_quick tw15965015591981942514 for PySem.W.namesOk by Mine.same_names
name_quick tw503676674663206642 for PySem.W.namesOk by Mine.same_names
name_quick tw9931943479562821362 for PySem.W.namesOk by Mine.same_names
name_quick tw4552823106982906706 for PySem.W.namesOk by Mine.same_names
name_quick tw13156168479132978002 for PySem.W.namesOk by Mine.same_names
name_quick tw15315713394281565010 for PySem.W.namesOk by Mine.same_names
name_quick tw2387720566874501970 for PySem.W.namesOk by Mine.same_names
name_quick tw4011157648589011858 for PySem.W.namesOk by Mine.same_names
name_quick tw16873187988247708562 for PySem.W.namesOk by Mine.same_names
name_quick tw16645262185327669138 for PySem.W.namesOk by Mine.same_names
name_quick tw3149940706203789266 for PySem.W.namesOk by Mine.same_names
name_quick tw4407734736301137906 for PySem.W.namesOk by Mine.same_names
name_quick tw6662432510661729299 for PySem.W.namesOk by Mine.same_names
name_quick tw5518745428033880147 for PySem.W.namesOk by Mine.same_names
name_quick tw1708024556718086227 for PySem.W.namesOk by Mine.same_names
name_quick tw3152983702415266003 for PySem.W.namesOk by Mine.same_names
name_quick tw10919533547850550483 for PySem.W.namesOk by Mine.same_names
name_quick tw5862295025349918931 for PySem.W.namesOk by Mine.same_names
name_quick tw10758392820592806131 for PySem.W.namesOk by Mine.same_names
name_quick tw6090905460779295987 for PySem.W.namesOk by Mine.same_names
name_quick tw14763704009068828915 for PySem.W.namesOk by Mine.same_names
name_quick tw15039117976438264115 for PySem.W.namesOk by Mine.same_names
name_quick tw10352308551163946355 for PySem.W.namesOk by Mine.same_names
name_quick tw15066959818950650227 for PySem.W.namesOk by Mine.same_names
name_quick tw9977392586421186931 for PySem.W.namesOk by Mine.same_names
name_quick tw16406328271908756883 for PySem.W.namesOk by Mine.same_names
name_quick tw10942035263794033107 for PySem.W.namesOk by Mine.same_names
name_quick tw14112274594779413971 for PySem.W.namesOk by Mine.same_names
name_quick tw10227693086864044499 for PySem.W.namesOk by Mine.same_names
name_quick tw4888971946704870899 for PySem.W.namesOk by Mine.same_names
name_quick tw17503288770812694035 for PySem.W.namesOk by Mine.same_names
name_quick tw4111355340424721971 for PySem.W.namesOk by Mine.same_names
name_quick tw3766158894648301139 for PySem.W.namesOk by Mine.same_names
name_quick tw9787396351842916947 for PySem.W.namesOk by Mine.same_names
name_quick tw5732905514179830355 for PySem.W.namesOk by Mine.same_names
name_quick tw9376109419431680627 for PySem.W.namesOk by Mine.same_names
name_quick tw4966893808263662355 for PySem.W.namesOk by Mine.same_names
name_quick tw15562837088269578035 for PySem.W.namesOk by Mine.same_names
name_quick tw13251646731365433171 for PySem.W.namesOk by Mine.same_names
name_quick tw14874922208557711187 for PySem.W.namesOk by Mine.same_names
name_quick tw4681523508651956083 for PySem.W.namesOk by Mine.same_names
name_quick tw16127339712140622707 for PySem.W.namesOk by Mine.same_names
name_quick tw1503297043503765363 for PySem.W.namesOk by Mine.same_names
name_quick tw313226197891681235 for PySem.W.namesOk by Mine.same_names
name_quick tw15450981722951097364 for PySem.W.namesOk by Mine.same_names
name_quick tw607167704815816724 for PySem.W.namesOk by Mine.same_names
name_quick tw15806122291839087668 for PySem.W.namesOk by Mine.same_names
name_quick tw17244072584429378644 for PySem.W.namesOk by Mine.same_names
name_quick tw2862820112641550484 for PySem.W.namesOk by Mine.same_names
name_quick tw4075660801711882420 for PySem.W.namesOk by Mine.same_names
name_quick tw5946566240119215348 for PySem.W.namesOk by Mine.same_names
name_quick tw18211773271919218964 for PySem.W.namesOk by Mine.same_names
name_quick tw9131251417149488404 for PySem.W.namesOk by Mine.same_names
name_quick tw16942504070071679284 for PySem.W.namesOk by Mine.same_names
name_quick tw11636919720809706868 for PySem.W.namesOk by Mine.same_names
name_quick tw6909570525239066004 for PySem.W.namesOk by Mine.same_names
name_quick tw5512085447785999860 for PySem.W.namesOk by Mine.same_names
name_quick tw7503421922109321716 for PySem.W.namesOk by Mine.same_names
name_quick tw9300948228871686676 for PySem.W.namesOk by Mine.same_names
name_quick tw15480198773659482676 for PySem.W.namesOk by Mine.same_names
name_quick tw8537084889766193716 for PySem.W.namesOk by Mine.same_names
name_quick tw13951202360752479828 for PySem.W.namesOk by Mine.same_names
name_quick tw7094674258960923220 for PySem.W.namesOk by Mine.same_names
name_quick tw1041845030581493396 for PySem.W.namesOk by Mine.same_names
name_quick tw2674190319118857908 for PySem.W.namesOk by Mine.same_names
name_quick tw2283851925072248500 for PySem.W.namesOk by Mine.same_names
name_quick tw11420187438672877268 for PySem.W.namesOk by Mine.same_names
name_quick tw9315938663221665524 for PySem.W.namesOk by Mine.same_names
name_quick tw17730428716208468724 for PySem.W.namesOk by Mine.same_names
name_quick tw8430678208038309684 for PySem.W.namesOk by Mine.same_names
name_quick tw17614413878374492980 for PySem.W.namesOk by Mine.same_names
name_quick tw7543195961347049332 for PySem.W.namesOk by Mine.same_names
name_quick tw15742981410569661332 for PySem.W.namesOk by Mine.same_names
name_quick tw921073385446354868 for PySem.W.namesOk by Mine.same_names
name_quick tw6363645014702824404 for PySem.W.namesOk by Mine.same_names
name_quick tw7619357645376055252 for PySem.W.namesOk by Mine.same_names
name_quick tw13102660428377437172 for PySem.W.namesOk by Mine.same_names
name_quick tw13642483538084851733 for PySem.W.namesOk by Mine.same_names
name_quick tw14530364306720264245 for PySem.W.namesOk by Mine.same_names
name_quick tw178441218286455893 for PySem.W.namesOk by Mine.same_names
name_quick tw5950129339639070837 for PySem.W.namesOk by Mine.same_names
name_quick tw282004115355043989 for PySem.W.namesOk by Mine.same_names
name_quick tw18163708392712065173 for PySem.W.namesOk by Mine.same_names
name_quick tw16648231224745350325 for PySem.W.namesOk by Mine.same_names
name_quick tw12290603225136948437 for PySem.W.namesOk by Mine.same_names
name_quick tw4527066259768149269 for PySem.W.namesOk by Mine.same_names
name_quick tw8753696776887207221 for PySem.W.namesOk by Mine.same_names
name_quick tw12809422525583811893 for PySem.W.namesOk by Mine.same_names
name_quick tw10528696920762540405 for PySem.W.namesOk by Mine.same_names
name_quick tw14553827428707814869 for PySem.W.namesOk by Mine.same_names
name_quick tw12237943961548833269 for PySem.W.namesOk by Mine.same_names
name_quick tw9366154903689656853 for PySem.W.namesOk by Mine.same_names
name_quick tw392140993173905013 for PySem.W.namesOk by Mine.same_names
name_quick tw11964429278604863157 for PySem.W.namesOk by Mine.same_names
name_quick tw17537794083376710389 for PySem.W.namesOk by Mine.same_names
name_quick tw17899373020297197333 for PySem.W.namesOk by Mine.same_names
name_quick tw725871291056497461 for PySem.W.namesOk by Mine.same_names
name_quick tw15773981995205291829 for PySem.W.namesOk by Mine.same_names
name_quick tw8450942572126056277 for PySem.W.namesOk by Mine.same_names
name_quick tw1218959903707654005 for PySem.W.namesOk by Mine.same_names
name_quick tw17169101284591775605 for PySem.W.namesOk by Mine.same_names
name_quick tw7299303143086499733 for PySem.W.namesOk by Mine.same_names
name_quick tw14971746577665755125 for PySem.W.namesOk by Mine.same_names
name_quick tw3825061337978711158 for PySem.W.namesOk by Mine.same_names
name_quick tw14126943448341045398 for PySem.W.namesOk by Mine.same_names
name_quick tw2958062672499776758 for PySem.W.namesOk by Mine.same_names
name_quick tw9413167413068371254 for PySem.W.namesOk by Mine.same_names
name_quick tw3619232141914619222 for PySem.W.namesOk by Mine.same_names
name_quick tw10996506086634736982 for PySem.W.namesOk by Mine.same_names
name_quick tw2627984346626558326 for PySem.W.namesOk by Mine.same_names
name_quick tw10030586065758793078 for PySem.W.namesOk by Mine.same_names
name_quick tw14023627001141898710 for PySem.W.namesOk by Mine.same_names
name_quick tw1401972060568974870 for PySem.W.namesOk by Mine.same_names
name_quick tw11939915149646268982 for PySem.W.namesOk by Mine.same_names
name_quick tw12635813782599140982 for PySem.W.namesOk by Mine.same_names
name_quick tw17015423121036801654 for PySem.W.namesOk by Mine.same_names
name_quick tw14420389602138693270 for PySem.W.namesOk by Mine.same_names
name_quick tw2408619945344806742 for PySem.W.namesOk by Mine.same_names
name_quick tw9082586571710850966 for PySem.W.namesOk by Mine.same_names
name_quick tw9467589175468403638 for PySem.W.namesOk by Mine.same_names
name_quick tw5082074563857973206 for PySem.W.namesOk by Mine.same_names
name_quick tw10508251915553800215 for PySem.W.namesOk by Mine.same_names
name_quick tw13241461904039861399 for PySem.W.namesOk by Mine.same_names
name_quick tw2670528217467546775 for PySem.W.namesOk by Mine.same_names
name_quick tw8989982439271903415 for PySem.W.namesOk by Mine.same_names
name_quick tw1829445100760108279 for PySem.W.namesOk by Mine.same_names
name_quick tw15194748194917737719 for PySem.W.namesOk by Mine.same_names
name_quick tw8125055898148337911 for PySem.W.namesOk by Mine.same_names
name_quick tw15663404670287596823 for PySem.W.namesOk by Mine.same_names
name_quick tw13903129631018457399 for PySem.W.namesOk by Mine.same_names
name_quick tw10308316962582663543 for PySem.W.namesOk by Mine.same_names
name_quick tw10767066097796618615 for PySem.W.namesOk by Mine.same_names
name_quick tw9219426015542480343 for PySem.W.namesOk by Mine.same_names
name_quick tw7585139358526817783 for PySem.W.namesOk by Mine.same_names
name_quick tw5854881644878751223 for PySem.W.namesOk by Mine.same_names
name_quick tw9676229304581654039 for PySem.W.namesOk by Mine.same_names
name_quick tw8800560270773162519 for PySem.W.namesOk by Mine.same_names
name_quick tw15880737140895825463 for PySem.W.namesOk by Mine.same_names
name_quick tw7802139600951554647 for PySem.W.namesOk by Mine.same_names
name_quick tw12945451867199242903 for PySem.W.namesOk by Mine.same_names
name_quick tw9575948337506731703 for PySem.W.namesOk by Mine.same_names
name_quick tw14433975572909055671 for PySem.W.namesOk by Mine.same_names
name_quick tw1419416864934026935 for PySem.W.namesOk by Mine.same_names
name_quick tw3325841961599345399 for PySem.W.namesOk by Mine.same_names
name_quick tw7098571738820278039 for PySem.W.namesOk by Mine.same_names
name_quick tw12989987162080215863 for PySem.W.namesOk by Mine.same_names
name_quick tw13145125596335152023 for PySem.W.namesOk by Mine.same_names
name_quick tw18011898689540126615 for PySem.W.namesOk by Mine.same_names
name_quick tw14097648870716263351 for PySem.W.namesOk by Mine.same_names
name_quick tw878741703135273975 for PySem.W.namesOk by Mine.same_names
name_quick tw1702518465993881591 for PySem.W.namesOk by Mine.same_names
name_quick tw14971970265804392439 for PySem.W.namesOk by Mine.same_names
name_quick tw3891137856419664920 for PySem.W.namesOk by Mine.same_names
name_quick tw6004533443673955352 for PySem.W.namesOk by Mine.same_names
name_quick tw662354867322794072 for PySem.W.namesOk by Mine.same_names
name_quick tw17352973434858128600 for PySem.W.namesOk by Mine.same_names
name_quick tw2506853364499732696 for PySem.W.namesOk by Mine.same_names
name_quick tw14168537005229113720 for PySem.W.namesOk by Mine.same_names
name_quick tw10045867985992453528 for PySem.W.namesOk by Mine.same_names
name_quick tw17765544955259793912 for PySem.W.namesOk by Mine.same_names
name_quick tw6059929106960060952 for PySem.W.namesOk by Mine.same_names
name_quick tw8620020772036689432 for PySem.W.namesOk by Mine.same_names
name_quick tw7198390536060210744 for PySem.W.namesOk by Mine.same_names
name_quick tw10566121119561648760 for PySem.W.namesOk by Mine.same_names
name_quick tw18188234029961486008 for PySem.W.namesOk by Mine.same_names
name_quick tw8738083113354223288 for PySem.W.namesOk by Mine.same_names
name_quick tw8400853705098224536 for PySem.W.namesOk by Mine.same_names
name_quick tw17554001833073541016 for PySem.W.namesOk by Mine.same_names
name_quick tw1393629259489396696 for PySem.W.namesOk by Mine.same_names
name_quick tw18273839248471157720 for PySem.W.namesOk by Mine.same_names
name_quick tw16947794391021106201 for PySem.W.namesOk by Mine.same_names
name_quick tw17988542015724977305 for PySem.W.namesOk by Mine.same_names
name_quick tw13776390136698705113 for PySem.W.namesOk by Mine.same_names
name_quick tw16039550372008468697 for PySem.W.namesOk by Mine.same_names
name_quick tw7957090006295546105 for PySem.W.namesOk by Mine.same_names
name_quick tw6683783046931543321 for PySem.W.namesOk by Mine.same_names
name_quick tw13809362725867891129 for PySem.W.namesOk by Mine.same_names
name_quick tw10650810973499830745 for PySem.W.namesOk by Mine.same_names
name_quick tw9407582987413476825 for PySem.W.namesOk by Mine.same_names
name_quick tw13068201316199658969 for PySem.W.namesOk by Mine.same_names
name_quick tw17280976486791472633 for PySem.W.namesOk by Mine.same_names
name_quick tw2759451637364818457 for PySem.W.namesOk by Mine.same_names
name_quick tw3427515755752030745 for PySem.W.namesOk by Mine.same_names
name_quick tw15542503528162795033 for PySem.W.namesOk by Mine.same_names
name_quick tw6580340599500149305 for PySem.W.namesOk by Mine.same_names
name_quick tw15007238320947547705 for PySem.W.namesOk by Mine.same_names
name_quick tw8719427161674164953 for PySem.W.namesOk by Mine.same_names
name_quick tw12022618010286034681 for PySem.W.namesOk by Mine.same_names
name_quick tw6245536207120538393 for PySem.W.namesOk by Mine.same_names
name_quick tw3889259530307233657 for PySem.W.namesOk by Mine.same_names
name_quick tw13713124405324915609 for PySem.W.namesOk by Mine.same_names
name_quick tw139799656371268569 for PySem.W.namesOk by Mine.same_names
name_quick tw12647630874787467225 for PySem.W.namesOk by Mine.same_names
name_quick tw2460228577881660442 for PySem.W.namesOk by Mine.same_names
name_quick tw13551572312386263098 for PySem.W.namesOk by Mine.same_names
name_quick tw6123655918767846522 for PySem.W.namesOk by Mine.same_names
name_quick tw470574548607681690 for PySem.W.namesOk by Mine.same_names
name_quick tw682011567655089306 for PySem.W.namesOk by Mine.same_names
name_quick tw1375587502874563802 for PySem.W.namesOk by Mine.same_names
name_quick tw9908251947323293946 for PySem.W.namesOk by Mine.same_names
name_quick tw12832477231654346042 for PySem.W.namesOk by Mine.same_names
name_quick tw6012508502120743258 for PySem.W.namesOk by Mine.same_names
name_quick tw4824431525194463578 for PySem.W.namesOk by Mine.same_names
name_quick tw10589684114461592954 for PySem.W.namesOk by Mine.same_names
name_quick tw5978237884098788730 for PySem.W.namesOk by Mine.same_names
name_quick tw3820604794100220378 for PySem.W.namesOk by Mine.same_names
name_quick tw8098380416015320538 for PySem.W.namesOk by Mine.same_names
name_quick tw3355348695024010778 for PySem.W.namesOk by Mine.same_names
name_quick tw10706342367453228570 for PySem.W.namesOk by Mine.same_names
name_quick tw3267979357774110234 for PySem.W.namesOk by Mine.same_names
name_quick tw15059462757989803610 for PySem.W.namesOk by Mine.same_names
name_quick tw8119918657739134586 for PySem.W.namesOk by Mine.same_names
name_quick tw15157221202141545114 for PySem.W.namesOk by Mine.same_names
name_quick tw3105397867545767578 for PySem.W.namesOk by Mine.same_names
name_quick tw11519604305632133818 for PySem.W.namesOk by Mine.same_names
name_quick tw13471461260053382970 for PySem.W.namesOk by Mine.same_names
name_quick tw9492235034089005946 for PySem.W.namesOk by Mine.same_names
name_quick tw17954736447514056666 for PySem.W.namesOk by Mine.same_names
name_quick tw219737044198020058 for PySem.W.namesOk by Mine.same_names
name_quick tw13329733208086693882 for PySem.W.namesOk by Mine.same_names
name_quick tw3577408171920636059 for PySem.W.namesOk by Mine.same_names
name_quick tw4904739604578439355 for PySem.W.namesOk by Mine.same_names
name_quick tw5646442142991981755 for PySem.W.namesOk by Mine.same_names
name_quick tw3436264866546951355 for PySem.W.namesOk by Mine.same_names
name_quick tw293829605474521371 for PySem.W.namesOk by Mine.same_names
name_quick tw16548257151911338427 for PySem.W.namesOk by Mine.same_names
name_quick tw950723637873067451 for PySem.W.namesOk by Mine.same_names
name_quick tw396607853666888187 for PySem.W.namesOk by Mine.same_names
name_quick tw10727534119236929211 for PySem.W.namesOk by Mine.same_names
name_quick tw9763268239775435451 for PySem.W.namesOk by Mine.same_names
name_quick tw17394056326795013819 for PySem.W.namesOk by Mine.same_names
name_quick tw10885399304501877467 for PySem.W.namesOk by Mine.same_names
name_quick tw2302674139485633275 for PySem.W.namesOk by Mine.same_names
name_quick tw2664551874359636763 for PySem.W.namesOk by Mine.same_names
name_quick tw3953757239420563355 for PySem.W.namesOk by Mine.same_names
name_quick tw6213141578215901147 for PySem.W.namesOk by Mine.same_names
name_quick tw13215998728584607739 for PySem.W.namesOk by Mine.same_names
name_quick tw5720267713326709755 for PySem.W.namesOk by Mine.same_names
name_quick tw5357591511691535388 for PySem.W.namesOk by Mine.same_names
name_quick tw10181792811725400092 for PySem.W.namesOk by Mine.same_names
name_quick tw14427280190107063356 for PySem.W.namesOk by Mine.same_names
name_quick tw3504847659760329788 for PySem.W.namesOk by Mine.same_names
name_quick tw12827158375178065980 for PySem.W.namesOk by Mine.same_names
name_quick tw3148276903521382524 for PySem.W.namesOk by Mine.same_names
name_quick tw2370070277545300124 for PySem.W.namesOk by Mine.same_names
name_quick tw7365555872484859036 for PySem.W.namesOk by Mine.same_names
name_quick tw6654550962395885724 for PySem.W.namesOk by Mine.same_names
name_quick tw5701610774189311196 for PySem.W.namesOk by Mine.same_names
name_quick tw5345256250457102556 for PySem.W.namesOk by Mine.same_names
name_quick tw1706496860858754268 for PySem.W.namesOk by Mine.same_names
name_quick tw6214688769961185500 for PySem.W.namesOk by Mine.same_names
name_quick tw6817277305950994716 for PySem.W.namesOk by Mine.same_names
name_quick tw2447775223705975068 for PySem.W.namesOk by Mine.same_names
name_quick tw17100903815162463580 for PySem.W.namesOk by Mine.same_names
name_quick tw12659028871203227004 for PySem.W.namesOk by Mine.same_names
name_quick tw17295947923314359676 for PySem.W.namesOk by Mine.same_names
name_quick tw6426273055680023932 for PySem.W.namesOk by Mine.same_names
name_quick tw14210447440969649564 for PySem.W.namesOk by Mine.same_names
name_quick tw10205541121877940668 for PySem.W.namesOk by Mine.same_names
name_quick tw12904701694872073660 for PySem.W.namesOk by Mine.same_names
name_quick tw5853609219237828028 for PySem.W.namesOk by Mine.same_names
name_quick tw5396446701170858492 for PySem.W.namesOk by Mine.same_names
name_quick tw15199281503961881116 for PySem.W.namesOk by Mine.same_names
name_quick tw18345786424863182364 for PySem.W.namesOk by Mine.same_names
name_quick tw6144853644547557980 for PySem.W.namesOk by Mine.same_names
name_quick tw9720828393056574044 for PySem.W.namesOk by Mine.same_names
name_quick tw7745614565497352828 for PySem.W.namesOk by Mine.same_names
name_quick tw5111356299099525756 for PySem.W.namesOk by Mine.same_names
name_quick tw7397068168572129948 for PySem.W.namesOk by Mine.same_names
name_quick tw13317431791736044220 for PySem.W.namesOk by Mine.same_names
name_quick tw4287028408620065468 for PySem.W.namesOk by Mine.same_names
name_quick tw13951257522405164796 for PySem.W.namesOk by Mine.same_names
name_quick tw8180830640274347804 for PySem.W.namesOk by Mine.same_names
name_quick tw4800724452203346748 for PySem.W.namesOk by Mine.same_names
name_quick tw8802822988693486460 for PySem.W.namesOk by Mine.same_names
name_quick tw1631149150583789468 for PySem.W.namesOk by Mine.same_names
name_quick tw11277413387252134812 for PySem.W.namesOk by Mine.same_names
name_quick tw16643379632663270332 for PySem.W.namesOk by Mine.same_names
name_quick tw16241802466949684156 for PySem.W.namesOk by Mine.same_names
name_quick tw6624491594363574236 for PySem.W.namesOk by Mine.same_names
name_quick tw13912434898499826684 for PySem.W.namesOk by Mine.same_names
name_quick tw17476080006546285661 for PySem.W.namesOk by Mine.same_names
name_quick tw9504726810853072989 for PySem.W.namesOk by Mine.same_names
name_quick tw5032809538720368765 for PySem.W.namesOk by Mine.same_names
name_quick tw18263319221461684349 for PySem.W.namesOk by Mine.same_names
name_quick tw4172830789200971933 for PySem.W.namesOk by Mine.same_names
name_quick tw14237665323762381021 for PySem.W.namesOk by Mine.same_names
name_quick tw10057510723706494237 for PySem.W.namesOk by Mine.same_names
name_quick tw16326889199254633757 for PySem.W.namesOk by Mine.same_names
name_quick tw5529568453561195837 for PySem.W.namesOk by Mine.same_names
name_quick tw13915792640404377917 for PySem.W.namesOk by Mine.same_names
name_quick tw14537914154153760125 for PySem.W.namesOk by Mine.same_names
name_quick tw15983881195869794717 for PySem.W.namesOk by Mine.same_names
name_quick tw1667231139898017245 for PySem.W.namesOk by Mine.same_names
name_quick tw12128325577817847261 for PySem.W.namesOk by Mine.same_names
name_quick tw18056578402003937789 for PySem.W.namesOk by Mine.same_names
name_quick tw10093032338203421213 for PySem.W.namesOk by Mine.same_names
name_quick tw9292931687148149277 for PySem.W.namesOk by Mine.same_names
name_quick tw10323183001455561277 for PySem.W.namesOk by Mine.same_names
name_quick tw11186114360453789277 for PySem.W.namesOk by Mine.same_names
name_quick tw1544652992362985085 for PySem.W.namesOk by Mine.same_names
name_quick tw17804436615005485693 for PySem.W.namesOk by Mine.same_names
name_quick tw7469732015759309437 for PySem.W.namesOk by Mine.same_names
name_quick tw7504490480230193789 for PySem.W.namesOk by Mine.same_names
name_quick tw17183712847048597117 for PySem.W.namesOk by Mine.same_names
name_quick tw18034167525097398909 for PySem.W.namesOk by Mine.same_names
name_quick tw13902233598862641821 for PySem.W.namesOk by Mine.same_names
name_quick tw1055568401681811165 for PySem.W.namesOk by Mine.same_names
name_quick tw10028428298569065181 for PySem.W.namesOk by Mine.same_names
name_quick tw17814930658547583709 for PySem.W.namesOk by Mine.same_names
name_quick tw3972328310683599613 for PySem.W.namesOk by Mine.same_names
name_quick tw7892128664451923741 for PySem.W.namesOk by Mine.same_names
name_quick tw13759679279233594173 for PySem.W.namesOk by Mine.same_names
name_quick tw16296994325663420285 for PySem.W.namesOk by Mine.same_names
name_quick tw6009246885244113885 for PySem.W.namesOk by Mine.same_names
name_quick tw6019396324639902685 for PySem.W.namesOk by Mine.same_names
name_quick tw1771862750571323454 for PySem.W.namesOk by Mine.same_names
name_quick tw4748654258956052638 for PySem.W.namesOk by Mine.same_names
name_quick tw6917869754434977982 for PySem.W.namesOk by Mine.same_names
name_quick tw2736616831223182526 for PySem.W.namesOk by Mine.same_names
name_quick tw7035115661146626270 for PySem.W.namesOk by Mine.same_names
name_quick tw14364280277409689854 for PySem.W.namesOk by Mine.same_names
name_quick tw973662469405803806 for PySem.W.namesOk by Mine.same_names
name_quick tw3636048126100218174 for PySem.W.namesOk by Mine.same_names
name_quick tw325292655437039998 for PySem.W.namesOk by Mine.same_names
name_quick tw17964007177503468958 for PySem.W.namesOk by Mine.same_names
name_quick tw15736541856241217950 for PySem.W.namesOk by Mine.same_names
name_quick tw8540232549379673566 for PySem.W.namesOk by Mine.same_names
name_quick tw460243522976405022 for PySem.W.namesOk by Mine.same_names
name_quick tw16869277618539721502 for PySem.W.namesOk by Mine.same_names
name_quick tw11130039905162102590 for PySem.W.namesOk by Mine.same_names
name_quick tw7641510929779896126 for PySem.W.namesOk by Mine.same_names
name_quick tw8732485361984058174 for PySem.W.namesOk by Mine.same_names
name_quick tw1962928258387122110 for PySem.W.namesOk by Mine.same_names
name_quick tw6205483292176774078 for PySem.W.namesOk by Mine.same_names
name_quick tw11328821685186248670 for PySem.W.namesOk by Mine.same_names
name_quick tw4292500188555128830 for PySem.W.namesOk by Mine.same_names
name_quick tw6122645084068987007 for PySem.W.namesOk by Mine.same_names
name_quick tw4549333791460862111 for PySem.W.namesOk by Mine.same_names
name_quick tw13746126617404028095 for PySem.W.namesOk by Mine.same_names
name_quick tw5189142188285759775 for PySem.W.namesOk by Mine.same_names
name_quick tw16349804527192203551 for PySem.W.namesOk by Mine.same_names
name_quick tw12973657651903071711 for PySem.W.namesOk by Mine.same_names
name_quick tw16950312913027304927 for PySem.W.namesOk by Mine.same_names
name_quick tw9011979029575296479 for PySem.W.namesOk by Mine.same_names
name_quick tw11729385059970357855 for PySem.W.namesOk by Mine.same_names
name_quick tw1139862187096482527 for PySem.W.namesOk by Mine.same_names
name_quick tw8224813933742928703 for PySem.W.namesOk by Mine.same_names
name_quick tw6448080314894763839 for PySem.W.namesOk by Mine.same_names
name_quick tw3054071069301022655 for PySem.W.namesOk by Mine.same_names
name_quick tw11452132507678324671 for PySem.W.namesOk by Mine.same_names
name_quick tw11994158751524154303 for PySem.W.namesOk by Mine.same_names
name_quick tw13335737130258781183 for PySem.W.namesOk by Mine.same_names
name_quick tw5738268480782695109 for PySem.W.namesOk by Mine.same_names
name_quick tw10891978494386549616 for PySem.W.namesOk by Mine.same_names
open_top hd for PySem.Challenge.rw_rg0222_01
theorem fill : (PySem.Challenge.rw_rg0222_01, Mine.hd.heap_39) = (PySem.Challenge.rw_rg0222_01, Mine.hd.heap_39) := by w_on; k_fill; rfl
local macro_rules | `(tactic| walk_at $s:str) => `(tactic| k_extra $s)
section SBas
/-- the weakest place a call may be made at -/
abbrev lo (d u : Nat) : Around := { handled := none, depth := d, frames := none, guards := none, units := u }

theorem at_mono {α : Type} {M : Model} {A A' : Around} {t : Sem α} {Q : α → Shared → Prop} {E : Value → Shared → Prop} {s : Shared} (h : wpAny M A t Q E s)
    (hh : A'.handled = A.handled) (hd : A'.depth ≤ A.depth) (hf : ∀ l, A.frames = some l → A'.frames = some l) (hg : ∀ l, A.guards = some l → A'.guards = some l) (hu : A'.units ≤ A.units) :
    wpAny M A' t Q E s := fun Γ p hΓ => by
  refine h Γ p ⟨hΓ.1.trans hh, Nat.le_trans hΓ.2.1 hd, fun l hl => hΓ.2.2.1 l (hf l hl), fun l hl => hΓ.2.2.2.1 l (hg l hl), Nat.le_trans hΓ.2.2.2.2 hu⟩

theorem use_lo {α : Type} {M : Model} {A : Around} {d u : Nat} {t : Sem α} {Q : α → Shared → Prop} {E : Value → Shared → Prop} {s : Shared} (h : wpAny M (lo d u) t Q E s)
    (hh : A.handled = none) (hd : A.depth ≤ d) (hu : A.units ≤ u) : wpAny M A t Q E s :=
  at_mono h hh hd (fun _ e => nomatch e) (fun _ e => nomatch e) hu

/-- all but the written stays -/
def Keep (W : List Addr) (h h' : Heap) : Prop := ∀ b o, b ∉ W → h.get? b = some o → h'.get? b = some o
theorem Keep.refl (W : List Addr) (h : Heap) : Keep W h h := fun _ _ _ e => e
theorem Keep.trans {W : List Addr} {h₁ h₂ h₃ : Heap} (x : Keep W h₁ h₂) (y : Keep W h₂ h₃) : Keep W h₁ h₃ := fun b o n e => y b o n (x b o n e)
theorem Keep.mono {W W' : List Addr} {h h' : Heap} (x : Keep W h h') (s : ∀ a ∈ W, a ∈ W') : Keep W' h h' := fun b o n e => x b o (fun m => n (s b m)) e
theorem Keep.of_base {W : List Addr} {h h' g : Heap} (hg : g = hideAll h W) (k : g.StaysIn h') : Keep W h h' := fun b o n e => k b o (hg ▸ hideAll_get _ e n)
theorem Keep.all {h h' : Heap} (x : Keep [] h h') : ∀ b o, h.get? b = some o → h'.get? b = some o := fun b o e => x b o (fun m => nomatch m) e
theorem Keep.of_all {h h' : Heap} {W : List Addr} (x : ∀ b o, h.get? b = some o → h'.get? b = some o) : Keep W h h' := fun b o _ e => x b o e
theorem Keep.stays {W : List Addr} {h h' B : Heap} (x : Keep W h h') (hB : B.StaysIn h) (hW : ∀ a ∈ W, B.get? a = none) : B.StaysIn h' := fun b o e => by
  refine x b o (fun m => ?_) (hB b o e)
  rw [hW b m] at e; cases e

theorem Keep.shrink {W W' : List Addr} {h h' : Heap} (x : Keep W h h') (y : ∀ a ∈ W, a ∈ W' ∨ ∀ o, h.get? a = some o → h'.get? a = some o) : Keep W' h h' := fun b o n e => by
  by_cases m : b ∈ W
  · rcases y b m with q | q
    · exact absurd q n
    · exact q o e
  · exact x b o m e
theorem same_of {h h' : Heap} {a : Addr} {o : Obj} (e : h.get? a = some o) (e' : h'.get? a = some o) : ∀ o, h.get? a = some o → h'.get? a = some o := fun o' q => by rw [e] at q; cases q; exact e'

theorem fr_call {g h h' : Heap} {L : Addr} {m : Str → Option Value} {W : List Addr} (F : Fr g L h m) (k : Keep W h h') (hL : L ∉ W) (hW : ∀ a ∈ W, g.get? a = none) : Fr g L h' m := by
  obtain ⟨oL, es, ep, e, r⟩ := F.ns
  exact ⟨⟨oL, es, ep, k L oL hL e, r⟩, k.stays F.keep hW, F.above⟩

theorem news_call {g h h' : Heap} {L : Addr} {W : List Addr} {news news' : List (Addr × Obj)} (N : News g L h news) (k : Keep W h h')
    (hn : ∀ p ∈ news', (p ∈ news ∧ p.1 ∉ W) ∨ (h'.get? p.1 = some p.2 ∧ p.1 ≠ L ∧ g.get? p.1 = none)) : News g L h' news' := fun p hp => by
  rcases hn p hp with ⟨h1, h2⟩ | h1
  · exact ⟨k _ _ h2 (N p h1).1, (N p h1).2⟩
  · exact h1

theorem fr_call0 {g h h' : Heap} {L : Addr} {m : Str → Option Value} (F : Fr g L h m) (k : Keep [] h h') : Fr g L h' m := fr_call F k (fun m => nomatch m) (fun _ m => nomatch m)
theorem news_call0 {g h h' : Heap} {L : Addr} {news : List (Addr × Obj)} (N : News g L h news) (k : Keep [] h h') : News g L h' news := news_call N k fun _ hp => .inl ⟨hp, fun m => nomatch m⟩

section
variable {prog : Program} {w : World} {A : Around} {s : Shared} {R : Result → Shared → Prop} {name qual : Str} {params : Arguments} {body : List Stmt} {scope : Scope} {cl : List (Str × Addr)} {dV kV doc pm cdv ct oc : Value}
  {an od : Option Addr} {osl : Array (Option Value)} {f : Addr} {args : Args} {binds : List (Str × Value)} {K : Frag} {B : Heap}

theorem enter (W : List Addr) (X : K.In B) (hlim : B.NoLimit) (hB : B.StaysIn s.heap) (hW : ∀ a ∈ W, B.get? a = none)
    (ho : K.lookup f = some ⟨oc, od, .func (fnX name qual params body scope cl dV kV doc pm an cdv ct), osl⟩) (hcd : codeIn K cdv qual = true) (hroom : A.depth < recursionLimit)
    (hbind : BindsTo s (fnX name qual params body scope cl dV kV doc pm an cdv ct) args binds) (hloc : ∀ y ∈ binds, scope.names.lookup y.1 = some .local)
    (h : ∀ g L h₁, g = hideAll s.heap W → L = s.heap.objs.size → Fr g L h₁ (fun y => binds.reverse.lookup y) → (∀ b o, s.heap.get? b = some o → h₁.get? b = some o) → B.StaysIn g → K.In g →
      wpAny (model prog w) (A.deeper (envX qual scope L f cdv cl)) (execs body (envX qual scope L f cdv cl)) (fun fl s' => R (.ok (.ret (match fl with | .ret v => v | _ => .none))) s')
        (fun e s' => wpAny (model prog w) (A.deeper (envX qual scope L f cdv cl)) (leaving (envX qual scope L f cdv cl) e) (fun _ s'' => R (.error e) s'') (fun e' s'' => R (.error e') s'') s')
        { s with heap := h₁, toks := s.toks + binds.length })
    (hcell : ∀ x ∈ scope.names, x.2 ≠ .cell) (hco : scope.isCoroutine = false := by rfl) (hgen : scope.isGenerator = false := by rfl) (hk : scope.kind = .function := by rfl) : codeAny (model prog w) A (.call (.ref f) args) R s := by
  have st : B.StaysIn (hideAll s.heap W) := fun b o e => hideAll_get _ (hB b o e) fun m => by rw [hW b m] at e; cases e
  refine codeAny_call_def (fd := fnX name qual params body scope cl dV kV doc pm an cdv ct) (body := body) (binds := binds) hroom (hB _ _ (X _ _ ho)) rfl (hlim.keeps hB) (codeRec_of (X.keeps hB) hcd) rfl hbind hcell hloc (fun h₁ hns hk₁ => ?_) hco hgen hk
  exact h _ _ h₁ rfl rfl ⟨hns, fun b o e => hk₁ b o (of_hideAll _ e), Nat.le_of_eq (hideAll_size _ _)⟩ hk₁ st (X.keeps st)
end

section
variable {prog : Program} {w : World} {A : Around} {s : Shared} {R : Result → Shared → Prop} {name qual : Str} {params : Arguments} {body : List Stmt} {scope : Scope} {dV kV doc pm cdv ct oc : Value}
  {an od : Option Addr} {osl : Array (Option Value)} {f : Addr} {args : Args} {binds : List (Str × Value)} {K : Frag} {B : Heap}

theorem enterC (W : List Addr) (X : K.In B) (hlim : B.NoLimit) (hB : B.StaysIn s.heap) (hW : ∀ a ∈ W, B.get? a = none)
    (ho : K.lookup f = some ⟨oc, od, .func (fnX name qual params body scope [] dV kV doc pm an cdv ct), osl⟩) (hcd : codeIn K cdv qual = true) (hroom : A.depth < recursionLimit)
    (hbind : BindsTo s (fnX name qual params body scope [] dV kV doc pm an cdv ct) args binds)
    (hkind : (binds.all fun y => scope.names.lookup y.1 == some .local || scope.names.lookup y.1 == some .cell) = true) (hnd : ((cellsFrom 0 scope.names []).map (·.1)).Nodup)
    (h : ∀ g L h₁ tk cells, g = hideAll s.heap W → L = s.heap.objs.size → Fr g L h₁ (bindL (envOfC qual scope L f cdv).kindOf binds fun _ => none) → News g L h₁ cells →
      CellsAre (bindC (envOfC qual scope L f cdv).kindOf binds fun _ => none) (cellsFrom (L + 1) scope.names []) cells → (∀ b o, s.heap.get? b = some o → h₁.get? b = some o) → B.StaysIn g → K.In g →
      wpAny (model prog w) (A.deeper (envOfC qual scope L f cdv)) (execs body (envOfC qual scope L f cdv)) (fun fl s' => R (.ok (.ret (match fl with | .ret v => v | _ => .none))) s')
        (fun e s' => wpAny (model prog w) (A.deeper (envOfC qual scope L f cdv)) (leaving (envOfC qual scope L f cdv) e) (fun _ s'' => R (.error e) s'') (fun e' s'' => R (.error e') s'') s')
        { s with heap := h₁, toks := tk })
    (hco : scope.isCoroutine = false := by rfl) (hgen : scope.isGenerator = false := by rfl) (hk : scope.kind = .function := by rfl) : codeAny (model prog w) A (.call (.ref f) args) R s := by
  have st : B.StaysIn (hideAll s.heap W) := fun b o e => hideAll_get _ (hB b o e) fun m => by rw [hW b m] at e; cases e
  refine codeAny_call_function hroom (hB _ _ (X _ _ ho)) rfl hco hgen rfl (codeRec_of (X.keeps hB) hcd) (hbind _ _ _ _ ?_)
  refine wpAny_newFunctionEnv_cells hk (kindsX hkind _) fun env' he s' x => ?_
  subst he
  refine ⟨(hlim.keeps hB).keeps x.toInCall.keep, codeAny_func ?_⟩
  obtain ⟨h₁, tk, rfl, _⟩ := x.done
  have hk₁ := x.toInCall.keep
  obtain ⟨cells, NC, Y⟩ := Cl.news (h₀ := s.heap) (Nat.le_refl _) fun n c hm => ⟨x.cell n c (lookup_of_mem_nodup (cellsFrom_names scope.names 0 (s.heap.objs.size + 1) [] [] rfl ▸ hnd) hm), x.above n c hm⟩
  refine h _ s.heap.objs.size h₁ tk cells rfl rfl ⟨x.toInCall.ns, fun b o e => hk₁ b o (of_hideAll _ e), Nat.le_of_eq (hideAll_size _ _)⟩ (fun p hp => ⟨(NC p hp).1, (NC p hp).2.1, ?_⟩) Y hk₁ st (X.keeps st)
  cases q : (hideAll s.heap W).get? p.1 with
  | none => rfl
  | some o => have := of_hideAll _ q; rw [(NC p hp).2.2] at this; cases this
end

theorem keep_end {W W' : List Addr} {g h h' : Heap} {L : Addr} {m : Str → Option Value} {news : List (Addr × Obj)} (hg : g = hideAll h W) (F : Fr g L h' m) (N : News g L h' news)
    (hW : ∀ a ∈ W, a ∈ W' ∨ ∃ o, h.get? a = some o ∧ (a, o) ∈ news) : Keep W' h h' :=
  (Keep.of_base hg F.keep).shrink fun a m => (hW a m).imp id fun ⟨_, e, q⟩ => same_of e (N _ q).1

theorem all_nil {α : Type} {P : α → Prop} : ∀ x ∈ ([] : List α), P x := fun _ m => nomatch m
theorem all_cons {α : Type} {P : α → Prop} {a : α} {l : List α} (h : P a) (t : ∀ x ∈ l, P x) : ∀ x ∈ a :: l, P x := fun x m => by
  cases m with
  | head => exact h
  | tail _ m => exact t x m
theorem all_app {α : Type} {P : α → Prop} {l r : List α} (h : ∀ x ∈ l, P x) (t : ∀ x ∈ r, P x) : ∀ x ∈ l ++ r, P x := fun x m => (List.mem_append.mp m).elim (h x) (t x)
theorem news_cons {g h : Heap} {L a : Addr} {o : Obj} {l : List (Addr × Obj)} (e : h.get? a = some o) (n : a ≠ L) (f : g.get? a = none) (N : News g L h l) : News g L h ((a, o) :: l) := all_cons ⟨e, n, f⟩ N
theorem news_nil {g h : Heap} {L : Addr} : News g L h [] := fun _ m => nomatch m
theorem news_head {g h : Heap} {L : Addr} {q : Addr × Obj} {l r : List (Addr × Obj)} (N : News g L h (q :: l)) (M : News g L h r) : News g L h (q :: r) := all_cons (N q (.head _)) M
theorem news_tl {g h : Heap} {L : Addr} {q : Addr × Obj} {l : List (Addr × Obj)} (N : News g L h (q :: l)) : News g L h l := fun x m => N x (.tail _ m)
theorem news_and {g h : Heap} {L : Addr} {l r : List (Addr × Obj)} (N : News g L h l) (M : News g L h r) : News g L h (l ++ r) := all_app N M
/-- all but the first n -/
theorem news_from {g h : Heap} {L : Addr} {l : List (Addr × Obj)} (n : Nat) (N : News g L h l) : News g L h (l.drop n) := fun q m => N q (List.mem_of_mem_drop m)
/-- the first n -/
theorem news_upto {g h : Heap} {L : Addr} {l : List (Addr × Obj)} (n : Nat) (N : News g L h l) : News g L h (l.take n) := fun q m => N q (List.mem_of_mem_take m)
theorem news_at {g h : Heap} {L a : Addr} {o : Obj} {l : List (Addr × Obj)} (n : Nat) (N : News g L h l) (e : l[n]? = some (a, o)) : h.get? a = some o := (N (a, o) (List.mem_of_getElem? e)).1
theorem opt_cases {α : Type} {C : Prop} (o : Option α) (h0 : o = none → C) (h1 : ∀ x, o = some x → C) : C := by
  cases o with
  | none => exact h0 rfl
  | some x => exact h1 x rfl
theorem notin_nil {α : Type} {a : α} : a ∉ ([] : List α) := fun m => nomatch m
theorem notin_cons {α : Type} {a x : α} {l : List α} (h : a ≠ x) (t : a ∉ l) : a ∉ x :: l := fun m => (List.mem_cons.mp m).elim h t
theorem news_pick {g h : Heap} {L a : Addr} {o : Obj} {l : List (Addr × Obj)} (n : Nat) (N : News g L h l) (e : l[n]? = some (a, o)) : h.get? a = some o ∧ a ≠ L ∧ g.get? a = none := N (a, o) (List.mem_of_getElem? e)
theorem all_fst {P : Addr → Prop} {l l' : List (Addr × Obj)} (h : ∀ q ∈ l, P q.1) (e : l.map Prod.fst = l'.map Prod.fst) : ∀ q ∈ l', P q.1 := fun q m => by
  have z : q.1 ∈ l'.map Prod.fst := List.mem_map_of_mem m
  rw [← e] at z
  obtain ⟨r, hr, er⟩ := List.mem_map.mp z
  exact er ▸ h r hr
theorem all_of_fst {P : Addr → Prop} {l : List (Addr × Obj)} (h : ∀ a ∈ l.map Prod.fst, P a) : ∀ q ∈ l, P q.1 := fun q m => h q.1 (List.mem_map_of_mem m)
theorem news_callA {g h h' : Heap} {L : Addr} {W : List Addr} {news : List (Addr × Obj)} (N : News g L h news) (k : Keep W h h') (hn : ∀ a ∈ news.map Prod.fst, a ∉ W) : News g L h' news := fun p hp => ⟨k _ _ (hn p.1 (List.mem_map_of_mem hp)) (N p hp).1, (N p hp).2⟩
theorem fresh_ne {h : Heap} {a D : Addr} {o : Obj} (f : h.get? D = none) (e : h.get? a = some o) : D ≠ a := fun z => by rw [← z, f] at e; cases e
theorem lt_lt {a b c : Nat} (h : a < b) (e : b ≤ c := by exact Nat.le_of_ble_eq_true rfl) : a + 1 ≤ c := Nat.le_trans h e
inductive ValT {α : Type} (g : Heap) (L : Addr) (m : Str → Option Value) (news : List (Addr × Obj)) (s : Shared) (v0 v : α) (s₁ : Shared) : Prop
  | mk (h : Heap) (tk : Nat) : v = v0 → s₁ = { s with heap := h, toks := tk } → Fr g L h m → News g L h news → ValT g L m news s v0 v s₁
theorem join_v {α : Type} {M : Model} {A : Around} {t : Sem α} {E : Value → Shared → Prop} {Q : α → Shared → Prop} {s : Shared} {g : Heap} {L : Addr} {m : Str → Option Value} {news : List (Addr × Obj)} {v0 : α} (F : Fr g L s.heap m) (N : News g L s.heap news)
    (h1 : wpAny M A t (ValT g L m news s v0) E s) (h2 : ∀ h tk, Fr g L h m → News g L h news → Q v0 { s with heap := h, toks := tk }) : wpAny M A t Q E s :=
  wpAny_mono h1 (fun v s' z => by cases z with | mk h tk e e' F' N' => rw [e, e']; exact h2 h tk F' N') fun _ _ x => x
theorem all_from {α : Type} {P : α → Prop} {l : List α} (n : Nat) (h : ∀ x ∈ l, P x) : ∀ x ∈ l.drop n, P x := fun x m => h x (List.mem_of_mem_drop m)
theorem all_upto {α : Type} {P : α → Prop} {l : List α} (n : Nat) (h : ∀ x ∈ l, P x) : ∀ x ∈ l.take n, P x := fun x m => h x (List.mem_of_mem_take m)
theorem hide_none {g h : Heap} {W : List Addr} {a : Addr} (hg : g = hideAll h W) (f : g.get? a = none) (n : a ∉ W) : h.get? a = none := by
  cases e : h.get? a with
  | none => rfl
  | some o => rw [hg, hideAll_get _ e n] at f; cases f
theorem name_head {g h : Heap} {L a : Addr} {o : Obj} {l : List (Addr × Obj)} (N : News g L h ((a, o) :: l)) : ∃ b : Addr, b = a := ⟨a, rfl⟩
def withNames : List (Str × Value) → (Str → Option Value) → Str → Option Value
  | [], m => m
  | p :: l, m => fun y => if y = p.1 then some p.2 else withNames l m y
def NamesAt (m : Str → Option Value) (l : List (Str × Value)) : Prop := ∀ p ∈ l, m p.1 = some p.2
theorem with_names {m : Str → Option Value} : ∀ {l : List (Str × Value)}, NamesAt m l → m = withNames l m
  | [], _ => rfl
  | p :: l, h => by
    funext y
    show m y = if y = p.1 then some p.2 else withNames l m y
    by_cases e : y = p.1
    · rw [if_pos e, e]; exact h p (.head _)
    · rw [if_neg e, ← with_names fun q hq => h q (.tail _ hq)]
theorem five_names {m : Str → Option Value} {k1 k2 k3 k4 k5 : Str} {v1 v2 v3 v4 v5 : Value} (h1 : m k1 = some v1) (h2 : m k2 = some v2) (h3 : m k3 = some v3) (h4 : m k4 = some v4) (h5 : m k5 = some v5) : NamesAt m [(k1, v1), (k2, v2), (k3, v3), (k4, v4), (k5, v5)] := fun p hp => by
  simp only [List.mem_cons, List.not_mem_nil, or_false] at hp
  rcases hp with rfl | rfl | rfl | rfl | rfl <;> assumption
theorem four_names {m : Str → Option Value} {k1 k2 k3 k4 : Str} {v1 v2 v3 v4 : Value} (h1 : m k1 = some v1) (h2 : m k2 = some v2) (h3 : m k3 = some v3) (h4 : m k4 = some v4) : NamesAt m [(k1, v1), (k2, v2), (k3, v3), (k4, v4)] := fun p hp => by
  simp only [List.mem_cons, List.not_mem_nil, or_false] at hp
  rcases hp with rfl | rfl | rfl | rfl <;> assumption
theorem fresh_neL {g h : Heap} {L D : Addr} {m : Str → Option Value} (F : Fr g L h m) (fz : h.get? D = none) : D ≠ L := by
  rintro rfl
  obtain ⟨_, _, _, eL, _⟩ := F.ns
  rw [fz] at eL
  cases eL
/-- a list or a tuple of ints -/
inductive SeqInts (h : Heap) (a : Addr) (xs : List Int) : Prop
  | mk : ∀ (vs), IntsAre vs xs → (h.IsList a vs.toArray ∨ IsTup h a vs.toArray) → SeqInts h a xs
/-- a tuple of ints -/
inductive TupInts (h : Heap) (a : Addr) (xs : List Int) : Prop
  | mk : ∀ (vs), IntsAre vs xs → IsTup h a vs.toArray → TupInts h a xs
theorem TupInts.fr {g h : Heap} {L a : Addr} {m : Str → Option Value} {xs : List Int} (x : TupInts g a xs) (F : Fr g L h m) : TupInts h a xs := by
  cases x with | mk vs iv t => exact ⟨vs, iv, F.tup t⟩
theorem TupInts.keep {W : List Addr} {h h' : Heap} {a : Addr} {xs : List Int} (x : TupInts h a xs) (k : Keep W h h') (n : a ∉ W) : TupInts h' a xs :=
  let ⟨vs, i, o, ho, r⟩ := x; ⟨vs, i, o, k a o n ho, r⟩
theorem SeqInts.keep {W : List Addr} {h h' : Heap} {a : Addr} {xs : List Int} (x : SeqInts h a xs) (k : Keep W h h') (n : a ∉ W) : SeqInts h' a xs := by
  obtain ⟨vs, i, ⟨o, ho, r⟩ | ⟨o, ho, r⟩⟩ := x
  · exact ⟨vs, i, .inl ⟨o, k a o n ho, r⟩⟩
  · exact ⟨vs, i, .inr ⟨o, k a o n ho, r⟩⟩

section
variable {prog : Program} {w : World} {A : Around} {E : Value → Shared → Prop} {s : Shared}
theorem len_tupI {l : Addr} {vs : List Value} {ns : List Int} {Q : Value → Shared → Prop} (hl : IsTup s.heap l vs.toArray) (hi : IntsAre vs ns) (hfit : ns.length < 2 ^ 62)
    (h : Q (.int (ns.length : Nat) (s.toks + 1)) { s with toks := s.toks + 1 + 1 }) : wpAny (model prog w) A (call (.builtin "len") [.ref l]) Q E s := by
  have e : vs.toArray.size = ns.length := by simp [hi.length]
  refine len_tuple hl (by omega) ?_
  rw [e]
  exact h
end
section
variable {prog : Program} {w : World} {A : Around} {E : Value → Shared → Prop} {s : Shared}
theorem len_lst {l : Addr} {vs : List Value} {Q : Value → Shared → Prop} (hl : s.heap.IsList l vs.toArray) (hfit : vs.length < 2 ^ 62)
    (h : Q (.int (vs.length : Nat) (s.toks + 1)) { s with toks := s.toks + 1 + 1 }) : wpAny (model prog w) A (call (.builtin "len") [.ref l]) Q E s := by
  refine Calls.call_len_list hl (by rw [List.size_toArray]; omega) ?_
  rw [List.size_toArray]
  exact h
theorem item_listR {value slice : PySem.Expr} {l : Addr} {vs : List Value} {k : Int} {u : Tok} {v : Value} {Q : Value → Shared → Prop}
    (hl : s.heap.IsList l vs.toArray) (h0 : 0 ≤ k) (hhi : k < 2 ^ 63) (hx : vs[k.toNat]? = some v) (h : Q v s)
    (hs : subscripted slice false (.ref l) (.int k u) = operate [.ref l, .int k u] (getItem (.ref l) (.int k u)) := by with_unfolding_all rfl) :
    wpAny (model prog w) A (subscriptTail value slice (.ref l) (.int k u)) Q E s :=
  tail_any hl.typeIs slot_list_getitem.lookup (wpAny_getItem_list hl h0 hhi (by simpa using hx) h) hs
end
theorem ret_int {Q : Value → Shared → Prop} {x y : Int} {t : Tok} {S : Shared} (h : Q (.int x t) S) (e : y = x) : Q (.int y t) S := e ▸ h
end SBas
section SLoops
section
variable {prog : Program} {w : World} {A : Around} {E : Value → Shared → Prop} {s : Shared} {env : Env} {g : Heap}

/-- the end of a turn -/
inductive LoopB (g : Heap) (L I : Addr) (oI : Obj) (s : Heap → Nat → Shared) (J : (Str → Option Value) → List (Addr × Obj) → Prop) (s₂ : Shared) : Prop
  | mk (h' : Heap) (tk' : Nat) (m₂ : Str → Option Value) (news₂ : List (Addr × Obj)) : s₂ = s h' tk' → Fr g L h' m₂ → News g L h' ((I, oI) :: news₂) → (∀ p ∈ news₂, p.1 ≠ I) → J m₂ news₂ → LoopB g L I oI s J s₂
def Shared.up (s : Shared) (h : Heap) (tk : Nat) : Shared := { s with heap := h, toks := tk }
def LoopEnd (g : Heap) (L I : Addr) (oI : Obj) (s : Shared) (J : (Str → Option Value) → List (Addr × Obj) → Prop) (Q : Flow → Shared → Prop) (f : Flow) (s₂ : Shared) : Prop :=
  match f with
  | .ret v => Q (.ret v) s₂
  | .brk => Q .next s₂
  | _ => LoopB g L I oI (Shared.up s) J s₂
/-- the walk of a for: its iterator stands alone, all else of its footprint in the base -/
inductive LoopF (prog : Program) (w : World) (A : Around) (g : Heap) (env : Env) (x : Str) (body : List Stmt) (Q : Flow → Shared → Prop) (it : Value) (s : Shared) : Prop
  | mk : ∀ (I : Addr) (fp : List Addr) (n : Nat) (P : Nat → Value → Prop) (St : Nat → Heap → Prop) (m : Str → Option Value) (news : List (Addr × Obj)) (J : Nat → (Str → Option Value) → List (Addr × Obj) → Prop), it = .ref I → Walks prog w A I fp [I] n P St → (∀ b ∈ fp, b = I ∨ ∃ o, g.get? b = some o) → I ≠ env.locals → g.get? I = none → St 0 s.heap → (∀ i h, St i h → ∃ o, h.get? I = some o) → Fr g env.locals s.heap m → News g env.locals s.heap news → (∀ p ∈ news, p.1 ≠ I) → J 0 m news → (∀ i v m₁ news₁ h tk oI, i < n → P i v → J i m₁ news₁ → (∀ p ∈ news₁, p.1 ≠ I) → Fr g env.locals h (fun y => if y = x then some v else m₁ y) → News g env.locals h ((I, oI) :: news₁) → wpAny (model prog w) A (execs body env) (LoopEnd g env.locals I oI s (J (i + 1)) Q) (fun _ _ => False) { s with heap := h, toks := tk }) → (∀ h tk m₁ news₁, Fr g env.locals h m₁ → News g env.locals h news₁ → J n m₁ news₁ → Q .next { s with heap := h, toks := tk }) → LoopF prog w A g env x body Q it s
/-- where a loop stands between its turns -/
inductive LoopW (g : Heap) (L I : Addr) (s₂ : Shared) (St : Nat → Heap → Prop) (J : Nat → (Str → Option Value) → List (Addr × Obj) → Prop) (n k : Nat) (s' : Shared) : Prop
  | mk (h' : Heap) (tk' : Nat) (m' : Str → Option Value) (news' : List (Addr × Obj)) (i : Nat) : s' = { s₂ with heap := h', toks := tk' } → St i h' → Fr g L h' m' → News g L h' news' → (∀ p ∈ news', p.1 ≠ I) → J i m' news' → i ≤ n → k = n + 1 - i → LoopW g L I s₂ St J n k s'
theorem for_walks {x : Str} {px pos : Pos} {iter : Expr} {body : List Stmt} {Q : Flow → Shared → Prop} (g : Heap) (hx : env.kindOf x = some .local)
    (hp : (env.scope.kind == .class || (env.scope.kind == .module && env.locals != env.globals)) = false)
    (h : wpAny (model prog w) A (eval iter env) (fun xv s₁ => wpAny (model prog w) A (pyIter xv) (fun it s₂ => LoopF prog w A g env x body Q it s₂) E s₁) E s)
    (hs : ∀ x, foldedSetIterable iter env x = pure x := by intro _; rfl) :
    wpAny (model prog w) A (exec (.For (.Name x px) iter body [] pos) env) Q E s := by
  refine wpAny_For (wpAny_mono h (fun xv s₁ h₁ => wpAny_mono h₁ (fun it s₂ h₂ => ?_) fun _ _ e => e) fun _ _ e => e) hs
  obtain ⟨I, fp, n, P, St, m, news, J, rfl, W, hfp, hIL, hIg, hst, hlive, F, N, hnI, hJ, turn, done⟩ := h₂
  refine codeAny_forLoop (LoopW g env.locals I s₂ St J n) ?_ (n + 1)
    ⟨s₂.heap, s₂.toks, m, news, 0, rfl, hst, F, N, hnI, hJ, Nat.zero_le _, rfl⟩
  rintro k s' ⟨h', tk', m', news', i, rfl, hst', F', N', hn', hJ', hi, rfl⟩
  have step : ∀ h₁ : Heap, (∀ b o, b ∉ [I] → h'.get? b = some o → h₁.get? b = some o) → Fr g env.locals h₁ m' ∧ News g env.locals h₁ news' := fun h₁ hk => by
    refine ⟨fr_call (W := [I]) F' (fun b o nb e => hk b o nb e) (by simpa using Ne.symm hIL) (by simpa using hIg), news_call (W := [I]) N' (fun b o nb e => hk b o nb e) fun p hp => .inl ⟨hp, by simpa using hn' p hp⟩⟩
  by_cases hlt : i < n
  · refine W.item i _ _ _ hlt hst' fun v h₁ tk₁ hPv hst₁ hk₁ => ?_
    obtain ⟨F₁, N₁⟩ := step h₁ hk₁
    refine wpAny_assign_Name (wpAny_storeName_local hx F₁.ns (fun h₂ hn₂ hs₂ => ?_) hp)
    have F₂ := F₁.set hn₂ hs₂
    have N₂ := N₁.set hs₂
    have hI₂ : ∀ o, h₁.get? I = some o → h₂.get? I = some o := fun o e => (hs₂.2 I hIL).trans e
    have hst₂ : St (i + 1) h₂ := W.frame _ _ _ hst₁ fun b hb o e => by
      rcases hfp b hb with rfl | ⟨o', ho'⟩
      · exact hI₂ o e
      · have e1 := F₁.keep b o' ho'
        rw [e] at e1
        cases e1
        exact F₂.keep b o ho'
    obtain ⟨oI, hoI⟩ := hlive _ _ hst₂
    have NI : News g env.locals h₂ ((I, oI) :: news') := fun p hp => by
      rcases List.mem_cons.mp hp with rfl | hp
      · exact ⟨hoI, hIL, hIg⟩
      · exact N₂ p hp
    refine wpAny_mono (turn i v m' news' h₂ _ oI hlt hPv hJ' hn' F₂ NI) (fun f s₃ h₃ => ?_) fun _ _ f => f.elim
    have fin : LoopB g env.locals I oI (Shared.up s₂) (J (i + 1)) s₃ → ∃ m, m < n + 1 - i ∧ LoopW g env.locals I s₂ St J n m s₃ := by
      rintro ⟨h₄, tk₄, m₄, news₄, rfl, F₄, N₄, hn₄, hJ₄⟩
      refine ⟨n + 1 - (i + 1), by omega, h₄, tk₄, m₄, news₄, i + 1, rfl, ?_, F₄, fun p hp => N₄ p (.tail _ hp), hn₄, hJ₄, hlt, rfl⟩
      refine W.frame _ _ _ hst₂ fun b hb o e => ?_
      rcases hfp b hb with rfl | ⟨o', ho'⟩
      · rw [hoI] at e; cases e; exact (N₄ _ (.head _)).1
      · have e1 := F₂.keep b o' ho'
        rw [e] at e1
        cases e1
        exact F₄.keep b o ho'
    cases f with
    | ret v => exact h₃
    | brk => exact h₃
    | next => exact fin h₃
    | cont => exact fin h₃
  · have hin : i = n := by omega
    subst hin
    refine W.done _ _ _ hst' fun h₁ tk₁ hk₁ => ?_
    obtain ⟨F₁, N₁⟩ := step h₁ hk₁
    exact wpAny_execs_nil (done h₁ tk₁ m' news' F₁ N₁ hJ')

theorem for_walksF {x : Str} {px pos : Pos} {iter : Expr} {body : List Stmt} {Q : Flow → Shared → Prop} {m : Str → Option Value} (_F : Fr g env.locals s.heap m) (hx : env.kindOf x = some .local)
    (hp : (env.scope.kind == .class || (env.scope.kind == .module && env.locals != env.globals)) = false)
    (h : wpAny (model prog w) A (eval iter env) (fun xv s₁ => wpAny (model prog w) A (pyIter xv) (fun it s₂ => LoopF prog w A g env x body Q it s₂) E s₁) E s)
    (hs : ∀ x, foldedSetIterable iter env x = pure x := by intro _; rfl) :
    wpAny (model prog w) A (exec (.For (.Name x px) iter body [] pos) env) Q E s := for_walks g hx hp h hs

/-- over a tuple of the base -/
theorem iter_tup {x : Str} {body : List Stmt} {Q : Flow → Shared → Prop} {a : Addr} {vs : List Value} {m : Str → Option Value} {news : List (Addr × Obj)} (J : Nat → (Str → Option Value) → List (Addr × Obj) → Prop)
    (hh : A.handled = none) (ht : IsTup g a vs.toArray) (F : Fr g env.locals s.heap m) (N : News g env.locals s.heap news) (hJ : J 0 m news)
    (turn : ∀ I i v m₁ news₁ h tk oI, vs[i]? = some v → J i m₁ news₁ → (∀ p ∈ news₁, p.1 ≠ I) → Fr g env.locals h (fun y => if y = x then some v else m₁ y) → News g env.locals h ((I, oI) :: news₁) →
      wpAny (model prog w) A (execs body env) (LoopEnd g env.locals I oI s (J (i + 1)) Q) (fun _ _ => False) { s with heap := h, toks := tk })
    (done : ∀ h tk m₁ news₁, Fr g env.locals h m₁ → News g env.locals h news₁ → J vs.length m₁ news₁ → Q .next { s with heap := h, toks := tk }) :
    wpAny (model prog w) A (pyIter (.ref a)) (fun it s₂ => LoopF prog w A g env x body Q it s₂) E s := by
  have hts : s.heap.IsTuple a vs.toArray := by
    obtain ⟨o, ho, r⟩ := ht
    exact ⟨o, F.keep _ _ ho, r⟩
  obtain ⟨oa, hoa, _⟩ := id ht
  have hlt : a < s.heap.objs.size := Heap.lt_size (F.keep _ _ hoa)
  refine wpAny_pyIter_tuple hts ?_
  have W := Walks.tuple (prog := prog) (w := w) hh s.heap.objs.size a (Nat.ne_of_lt hlt) vs.toArray
  refine ⟨_, _, _, _, _, m, news, J, rfl, W, ?_, Nat.ne_of_gt F.ns.lt, F.fresh, ⟨⟨_, Heap.get?_push_size _ rfl, rfl, rfl⟩, hts.at fun o e => Heap.get?_push_of_some _ e⟩, ?_, F.push _, fun p hp => ⟨Heap.get?_push_of_some _ (N p hp).1, (N p hp).2⟩, fun p hp => Nat.ne_of_lt (Heap.lt_size (N p hp).1), hJ, ?_, ?_⟩
  · intro b hb
    rcases List.mem_cons.mp hb with h | hb
    · exact .inl h
    · rw [List.mem_singleton.mp hb]
      exact .inr ⟨oa, hoa⟩
  · rintro i h ⟨⟨o, ho, _⟩, _⟩
    exact ⟨o, ho⟩
  · intro i v m₁ news₁ h tk oI _ hP hJ₁ hn₁ F₁ N₁
    exact turn _ i v m₁ news₁ h tk oI (by simpa using hP) hJ₁ hn₁ F₁ N₁
  · intro h tk m₁ news₁ F₁ N₁ hJ₁
    exact done h tk m₁ news₁ F₁ N₁ (by simpa using hJ₁)
end
end SLoops
section SComps
section
variable {prog : Program} {w : World} {A : Around} {E : Value → Shared → Prop} {s : Shared} {env : Env} {g : Heap}

/-- over a list of the base -/
theorem iter_lst {x : Str} {body : List Stmt} {Q : Flow → Shared → Prop} {a : Addr} {vs : List Value} {m : Str → Option Value} {news : List (Addr × Obj)} (J : Nat → (Str → Option Value) → List (Addr × Obj) → Prop)
    (hh : A.handled = none) (ht : g.IsList a vs.toArray) (F : Fr g env.locals s.heap m) (N : News g env.locals s.heap news) (hJ : J 0 m news)
    (turn : ∀ I i v m₁ news₁ h tk oI, vs[i]? = some v → J i m₁ news₁ → (∀ p ∈ news₁, p.1 ≠ I) → Fr g env.locals h (fun y => if y = x then some v else m₁ y) → News g env.locals h ((I, oI) :: news₁) →
      wpAny (model prog w) A (execs body env) (LoopEnd g env.locals I oI s (J (i + 1)) Q) (fun _ _ => False) { s with heap := h, toks := tk })
    (done : ∀ h tk m₁ news₁, Fr g env.locals h m₁ → News g env.locals h news₁ → J vs.length m₁ news₁ → Q .next { s with heap := h, toks := tk }) :
    wpAny (model prog w) A (pyIter (.ref a)) (fun it s₂ => LoopF prog w A g env x body Q it s₂) E s := by
  have hts : s.heap.IsList a vs.toArray := by
    obtain ⟨o, ho, r⟩ := ht
    exact ⟨o, F.keep _ _ ho, r⟩
  obtain ⟨oa, hoa, _⟩ := id ht
  have hlt : a < s.heap.objs.size := Heap.lt_size (F.keep _ _ hoa)
  refine wpAny_pyIter_list hts ?_
  have W := Walks.list (prog := prog) (w := w) hh s.heap.objs.size a (Nat.ne_of_lt hlt) vs.toArray
  refine ⟨_, _, _, _, _, m, news, J, rfl, W, ?_, Nat.ne_of_gt F.ns.lt, F.fresh, ⟨⟨_, Heap.get?_push_size _ rfl, rfl, rfl⟩, hts.at fun o e => Heap.get?_push_of_some _ e⟩, ?_, F.push _, fun p hp => ⟨Heap.get?_push_of_some _ (N p hp).1, (N p hp).2⟩, fun p hp => Nat.ne_of_lt (Heap.lt_size (N p hp).1), hJ, ?_, ?_⟩
  · intro b hb
    rcases List.mem_cons.mp hb with h | hb
    · exact .inl h
    · rw [List.mem_singleton.mp hb]
      exact .inr ⟨oa, hoa⟩
  · rintro i h ⟨⟨o, ho, _⟩, _⟩
    exact ⟨o, ho⟩
  · intro i v m₁ news₁ h tk oI _ hP hJ₁ hn₁ F₁ N₁
    exact turn _ i v m₁ news₁ h tk oI (by simpa using hP) hJ₁ hn₁ F₁ N₁
  · intro h tk m₁ news₁ F₁ N₁ hJ₁
    exact done h tk m₁ news₁ F₁ N₁ (by simpa using hJ₁)

/-- over a range from nought -/
theorem iter_rng {x : Str} {body : List Stmt} {Q : Flow → Shared → Prop} {r : Addr} {n : Nat} {t u v : Tok} {m : Str → Option Value} {news : List (Addr × Obj)} (J : Nat → (Str → Option Value) → List (Addr × Obj) → Prop)
    (hh : A.handled = none) (hr : IsRange s.heap r 0 (n : Int) 1 t u v) (hsz : n < 1000000) (F : Fr g env.locals s.heap m) (N : News g env.locals s.heap news) (hJ : J 0 m news)
    (turn : ∀ I (i : Nat) ti m₁ news₁ h tk oI, i < n → J i m₁ news₁ → (∀ p ∈ news₁, p.1 ≠ I) → Fr g env.locals h (fun y => if y = x then some (.int (i : Int) ti) else m₁ y) → News g env.locals h ((I, oI) :: news₁) →
      wpAny (model prog w) A (execs body env) (LoopEnd g env.locals I oI s (J (i + 1)) Q) (fun _ _ => False) { s with heap := h, toks := tk })
    (done : ∀ h tk m₁ news₁, Fr g env.locals h m₁ → News g env.locals h news₁ → J n m₁ news₁ → Q .next { s with heap := h, toks := tk }) :
    wpAny (model prog w) A (pyIter (.ref r)) (fun it s₂ => LoopF prog w A g env x body Q it s₂) E s := by
  have hz : Builtin.Range.rangeSize 0 (n : Int) 1 = (n : Int) := by
    unfold Builtin.Range.rangeSize
    split <;> simp_all <;> omega
  have hs : Builtin.Range.small 0 (n : Int) 1 = true := by
    unfold Builtin.Range.small Builtin.Range.rangeFitsLong
    simp only [hz]
    simp
    omega
  refine wpAny_pyIter_range hr hs ?_
  have W := (Walks.range (prog := prog) (w := w) hh s.heap.objs.size 0 1 n)
  refine ⟨_, _, _, _, _, m, news, J, rfl, W, ?_, Nat.ne_of_gt F.ns.lt, F.fresh, ?_, ?_, F.push _, fun p hp => ⟨Heap.get?_push_of_some _ (N p hp).1, (N p hp).2⟩, fun p hp => Nat.ne_of_lt (Heap.lt_size (N p hp).1), hJ, ?_, ?_⟩
  · intro b hb
    exact .inl (List.mem_singleton.mp hb)
  · show IsRangeIter _ _ _ _ _
    rw [hz]
    simpa using Heap.get?_push_size _ rfl
  · intro i h st
    exact ⟨_, st⟩
  · rintro i v m₁ news₁ h tk oI hi ⟨ti, rfl⟩ hJ₁ hn₁ F₁ N₁
    have e : (0 + (i : Int) * 1) = (i : Int) := by omega
    rw [e] at F₁
    exact turn _ i ti m₁ news₁ h tk oI hi hJ₁ hn₁ F₁ N₁
  · intro h tk m₁ news₁ F₁ N₁ hJ₁
    exact done h tk m₁ news₁ F₁ N₁ hJ₁

/-- a turn that stores nothing but the loop's own name -/
inductive PureB (g : Heap) (L : Addr) (x : Str) (m : Str → Option Value) (need : List (Addr × Obj)) (s s₂ : Shared) : Prop
  | mk (h' : Heap) (tk' : Nat) (m₂ : Str → Option Value) : s₂ = { s with heap := h', toks := tk' } → Fr g L h' m₂ → News g L h' need → (∀ y, y ≠ x → m₂ y = m y) → PureB g L x m need s s₂
def PureEnd (g : Heap) (L : Addr) (x : Str) (m : Str → Option Value) (need : List (Addr × Obj)) (s : Shared) (Q : Flow → Shared → Prop) (f : Flow) (s₂ : Shared) : Prop := match f with
  | .ret v => Q (.ret v) s₂
  | .brk => Q .next s₂
  | _ => PureB g L x m need s s₂

/-- over a tuple of ints of the base, nothing stored -/
theorem iter_tupI {x : Str} {body : List Stmt} {Q : Flow → Shared → Prop} {a : Addr} {vs : List Value} {ps : List Int} {m : Str → Option Value} {news : List (Addr × Obj)}
    (hh : A.handled = none) (ht : IsTup g a vs.toArray) (hi : IntsAre vs ps) (F : Fr g env.locals s.heap m) (N : News g env.locals s.heap news)
    (turn : ∀ I (i : Nat) n t h tk oI, ps[i]? = some n → n ∈ ps → (∀ p ∈ news, p.1 ≠ I) → Fr g env.locals h (fun y => if y = x then some (.int n t) else m y) → News g env.locals h ((I, oI) :: news) →
      wpAny (model prog w) A (execs body env) (PureEnd g env.locals x m ((I, oI) :: news) s Q) (fun _ _ => False) { s with heap := h, toks := tk })
    (done : ∀ h tk (u : Str → Option Value), Fr g env.locals h (fun y => if y = x then u y else m y) → News g env.locals h news → Q .next { s with heap := h, toks := tk }) :
    wpAny (model prog w) A (pyIter (.ref a)) (fun it s₂ => LoopF prog w A g env x body Q it s₂) E s := by
  refine iter_tup (fun _ m₁ news₁ => news₁ = news ∧ ∀ y, y ≠ x → m₁ y = m y) hh ht F N ⟨rfl, fun _ _ => rfl⟩ ?_ ?_
  · rintro I i v m₁ _ h tk oI hv ⟨rfl, hm⟩ hn₁ F₁ N₁
    have e : (fun y => if y = x then some v else m₁ y) = fun y => if y = x then some v else m y := by
      funext y
      by_cases hy : y = x
      · simp [hy]
      · simp only [if_neg hy]; exact hm y hy
    rw [e] at F₁
    cases hp : ps[i]? with
    | none =>
      have h1 := List.getElem?_eq_none_iff.mp hp
      have h2 := (List.getElem?_eq_some_iff.mp hv).1
      have h3 := hi.length
      omega
    | some n =>
      obtain ⟨t, ht'⟩ := hi.get i n hp
      rw [ht'] at hv
      cases hv
      refine wpAny_mono (turn I i n t h tk oI hp (List.mem_of_getElem? hp) hn₁ F₁ N₁) (fun f s₂ q => ?_) fun _ _ z => z
      cases f with
      | ret v => exact q
      | brk => exact q
      | next => obtain ⟨h', tk', m₂, e, F', N', hm'⟩ := q; exact ⟨h', tk', m₂, _, e, F', N', hn₁, rfl, hm'⟩
      | cont => obtain ⟨h', tk', m₂, e, F', N', hm'⟩ := q; exact ⟨h', tk', m₂, _, e, F', N', hn₁, rfl, hm'⟩
  · rintro h tk m₁ _ F₁ N₁ ⟨rfl, hm⟩
    refine done h tk m₁ ?_ N₁
    have e : (fun y => if y = x then m₁ y else m y) = m₁ := by
      funext y
      by_cases hy : y = x
      · simp [hy]
      · simp only [if_neg hy]; exact (hm y hy).symm
    rw [e]
    exact F₁

inductive CompK (s₂ : Shared) (Wr : List Addr) (h : Heap) (P : Heap → Prop) (s₄ : Shared) : Prop
  | mk (h₄ : Heap) (tk₄ : Nat) : s₄ = { s₂ with heap := h₄, toks := tk₄ } → Keep Wr h h₄ → P h₄ → CompK s₂ Wr h P s₄
/-- one turn of a comprehension: what the tests say, the item -/
def CompTurn (prog : Program) (w : World) (A : Around) (s₂ : Shared) (Wr : List Addr) (cenv : Env) (ifs : List Expr) (elt : Expr) (Jn : List Value → Heap → Prop) (ys : List Value) (h : Heap) (tk : Nat) : Prop :=
  wpAny (model prog w) A (forIn ifs true fun c r => if r = true then do let ok ← isTrue c cenv (eval c cenv); pure (ForInStep.yield ok) else pure (ForInStep.yield r))
    (fun ok s₃ => if ok = true then wpAny (model prog w) A (eval elt cenv) (fun y s₄ => CompK s₂ Wr h (Jn (ys ++ [y])) s₄) (fun _ _ => False) s₃
      else CompK s₂ Wr h (Jn ys) s₃) (fun _ _ => False) { s₂ with heap := h, toks := tk }

inductive CompW (s₂ : Shared) (C : Nat) (wr Wr : List Addr) (St : Nat → Heap → Prop) (J : Nat → List Value → Heap → Prop) (n k : Nat) (s' : Shared) : Prop
  | mk (h' : Heap) (tk' : Nat) (m' : Str → Option Value) (ys : List Value) (i : Nat) : s' = { s₂ with heap := h', toks := tk' } → St i h' → h'.Ns C m' → h'.PlainList s₂.heap.objs.size (List.toArray ys) → J i ys h' → ys.length ≤ i → i ≤ n → k = n + 1 - i → (∀ b o, b ∉ wr → b ∉ Wr → s₂.heap.get? b = some o → h'.get? b = some o) → CompW s₂ C wr Wr St J n k s'
theorem comp_block {elt iter : Expr} {x : Str} {px : Pos} {ifs : List Expr} {scope : Scope} {cl : List (Str × Addr)} {pos : Pos} {s₂ : Shared} {I : Addr} {fp wr : List Addr} {n : Nat} {P : Nat → Value → Prop}
    {St : Nat → Heap → Prop} (W : Walks prog w A I fp wr n P St) (hsz : n ≤ sizeLine) (Wr : List Addr) (J : Nat → List Value → Heap → Prop) {RR : Value → Addr → Result → Shared → Prop}
    (hcell : ∀ y ∈ scope.names, y.2 ≠ .cell) (hkind : scope.kind = .function) (hx : scope.names.lookup x = some .local) (hst : St 0 s₂.heap) (hfp : ∀ b ∈ fp, b < s₂.heap.objs.size)
    (hWr : ∀ b ∈ Wr, b < s₂.heap.objs.size ∧ b ∉ fp) (hJ : J 0 [] s₂.heap)
    (hJst : ∀ i ys h h', J i ys h → (∀ b o, b < s₂.heap.objs.size → b ∉ wr → h.get? b = some o → h'.get? b = some o) → J i ys h')
    (turn : ∀ i v C ys h tk m, s₂.heap.objs.size ≤ C → i < n → P i v → J i ys h → h.Ns C m → m x = some v → (∀ b o, b ∉ wr → b ∉ Wr → s₂.heap.get? b = some o → h.get? b = some o) →
      CompTurn prog w A s₂ Wr (compEnvC scope cl C env) ifs elt (J (i + 1)) ys h tk)
    (hRR : ∀ D C h' tk m' ys, s₂.heap.objs.size ≤ D → s₂.heap.get? D = none → s₂.heap.get? C = none → s₂.heap.objs.size ≤ C → D ≠ C → h'.Ns C m' → h'.PlainList D (List.toArray ys) → J n ys h' → ys.length ≤ n →
      (∀ b o, b ∉ wr → b ∉ Wr → s₂.heap.get? b = some o → h'.get? b = some o) → RR (.ref D) C (.ok .next) { s₂ with heap := h', toks := tk }) :
    wpAny (model prog w) A (newList []) (fun acc s₃ => wpAny (model prog w) A (newFunctionEnv scope env.globals cl [] env.qual none .none (some env)) (fun cenv s₄ =>
      codeAny (model prog w) A (.compStart (.ListComp elt [⟨.Name x px, iter, ifs, 0⟩] scope pos) 0 (.ref I) acc { cenv with scope := relabel scope env }) (RR acc cenv.locals) s₄) E s₃) E s₂ := by
  refine wpAny_newObj_type (wpAny_newFunctionEnv hcell (by intro y hy; simp at hy) (fun h₁ hns₁ hsb₁ => ?_) hkind)
  dsimp only at hns₁ hsb₁ ⊢
  generalize hH2 : s₂.heap.push { cls := .type "list", dict := none, data := .seq ([] : List Value).toArray } = H2 at hns₁ hsb₁ ⊢
  have hC : H2.objs.size = s₂.heap.objs.size + 1 := by rw [← hH2, Heap.size_push]
  have hDC : s₂.heap.objs.size ≠ H2.objs.size := by rw [hC]; exact Nat.ne_of_lt (Nat.lt_succ_self _)
  have hCle : s₂.heap.objs.size ≤ H2.objs.size := by rw [hC]; exact Nat.le_succ _
  have below : ∀ b, b < s₂.heap.objs.size → b ≠ H2.objs.size ∧ b ≠ s₂.heap.objs.size := fun b hb => ⟨by rw [hC]; exact Nat.ne_of_lt (Nat.lt_succ_of_lt hb), Nat.ne_of_lt hb⟩
  have hDf : s₂.heap.objs.size ∉ fp := fun hm => Nat.lt_irrefl _ (hfp _ hm)
  have hCf : H2.objs.size ∉ fp := fun hm => by have := hfp _ hm; rw [hC] at this; exact Nat.lt_irrefl _ (Nat.lt_of_succ_lt this)
  have hDW : s₂.heap.objs.size ∉ Wr := fun hm => Nat.lt_irrefl _ (hWr _ hm).1
  have hCW : H2.objs.size ∉ Wr := fun hm => by have := (hWr _ hm).1; rw [hC] at this; exact Nat.lt_irrefl _ (Nat.lt_of_succ_lt this)
  have old : ∀ b o, s₂.heap.get? b = some o → h₁.get? b = some o := fun b o e => hsb₁.extBut b o (below b (Heap.lt_size e)).1 (Heap.get?_push_of_some _ (hH2 ▸ Heap.get?_push_of_some _ e))
  have hacc : h₁.PlainList s₂.heap.objs.size #[] := ⟨_, hsb₁.extBut _ _ hDC (Heap.get?_push_of_some _ (hH2 ▸ Heap.get?_push_size _ rfl))⟩
  have hst₁ : St 0 h₁ := W.frame _ _ _ hst fun b _ o e => old b o e
  have hJ₁ : J 0 [] h₁ := hJst _ _ _ _ hJ fun b o _ _ e => old b o e
  have fresh : ∀ a, s₂.heap.objs.size ≤ a → s₂.heap.get? a = none := fun a ha => by
    cases e : s₂.heap.get? a with
    | none => rfl
    | some o' => exact absurd (Heap.lt_size e) (Nat.not_lt.mpr ha)
  have hCw : H2.objs.size ∉ wr := fun h => hCf (W.sub _ h)
  have hDw : s₂.heap.objs.size ∉ wr := fun h => hDf (W.sub _ h)
  have loop : ∀ s₃ : Shared, s₃ = { s₂ with heap := h₁, toks := s₂.toks + ([] : List (Str × Value)).length } →
      codeAny (model prog w) A (.compLoop (.ListComp elt [⟨.Name x px, iter, ifs, 0⟩] scope pos) 0 (.ref I) (.ref s₂.heap.objs.size) (compEnvC scope cl H2.objs.size env))
        (RR (.ref s₂.heap.objs.size) H2.objs.size) s₃ := by
    rintro s₃ rfl
    refine codeAny_compLoop_tests (CompW s₂ H2.objs.size wr Wr St J n) ?_ (n + 1)
      ⟨h₁, _, _, [], 0, rfl, hst₁, hns₁, by simpa using hacc, hJ₁, Nat.le_refl _, Nat.zero_le _, rfl, fun b o _ _ e => old b o e⟩
    rintro k s' ⟨h', tk', m', ys, i, rfl, hst', hn', hac', hJ', hys, hi, rfl, hk⟩
    by_cases hlt : i < n
    · refine W.item i _ _ _ hlt hst' fun v h₂ tk₂ hPv hst₂ hk₂ => ?_
      refine wpAny_assign_Name (wpAny_storeName_local (lookup_relabel_local hx) (hn'.at' fun o e => hk₂ _ o hCw e) (fun h₃ hn₃ hs₃ => ?_) (by simp [compEnvC, relabel, hkind]))
      have up : ∀ b o, b ≠ H2.objs.size → b ∉ wr → h'.get? b = some o → h₃.get? b = some o := fun b o hbC hbw e => hs₃.extBut b o hbC (hk₂ b o hbw e)
      have hst₃ : St (i + 1) h₃ := W.frame _ _ _ hst₂ fun b hb o e => hs₃.extBut b o (fun h => hCf (by have h' : b = H2.objs.size := h; rw [← h']; exact hb)) e
      have hJ₃ : J i ys h₃ := hJst _ _ _ _ hJ' fun b o hb hbw e => up b o (below b hb).1 hbw e
      have hk₃ : ∀ b o, b ∉ wr → b ∉ Wr → s₂.heap.get? b = some o → h₃.get? b = some o := fun b o hbw hbW e => up b o (below b (Heap.lt_size e)).1 hbw (hk b o hbw hbW e)
      have hac₃ : h₃.PlainList s₂.heap.objs.size (List.toArray ys) := hac'.at fun o e => up _ o hDC hDw e
      have tn := turn i v H2.objs.size ys h₃ (tk₂ + 1) _ hCle hlt hPv hJ₃ hn₃ (by simp) hk₃
      refine wpAny_mono tn (fun ok s₄ h₄ => ?_) fun _ _ f => f.elim
      have st_of : ∀ H, Keep Wr h₃ H → St (i + 1) H := fun H kp => W.frame _ _ _ hst₃ fun b hb o e => kp b o (fun m => (hWr b m).2 hb) e
      cases ok with
      | false =>
        simp only [Bool.false_eq_true, if_false] at h₄ ⊢
        obtain ⟨H₄, tk₄, rfl, kp₄, h₄⟩ := h₄
        exact ⟨n + 1 - (i + 1), by omega, H₄, tk₄, _, ys, i + 1, rfl, st_of _ kp₄, hn₃.at' fun o e => kp₄ _ o hCW e, hac₃.at fun o e => kp₄ _ o hDW e, h₄, by omega, hlt, rfl, fun b o hbw hbW e => kp₄ b o hbW (hk₃ b o hbw hbW e)⟩
      | true =>
        simp only [if_true] at h₄ ⊢
        refine wpAny_mono h₄ (fun y s₅ h₅ => ?_) fun _ _ f => f.elim
        obtain ⟨H₅, tk₅, rfl, kp, h₅⟩ := h₅
        have hac₅ : H₅.PlainList s₂.heap.objs.size (List.toArray ys) := hac₃.at fun o e => kp _ o hDW e
        refine wpAny_list_append_plain (hsz := by rw [List.size_toArray]; omega) hac₅ fun h₆ hl₆ hs₆ => ?_
        have up₆ : ∀ b o, b ≠ s₂.heap.objs.size → H₅.get? b = some o → h₆.get? b = some o := fun b o hb e => hs₆.extBut b o hb e
        refine ⟨n + 1 - (i + 1), by omega, h₆, tk₅, _, ys ++ [y], i + 1, rfl, W.frame _ _ _ (st_of _ kp) fun b hb o e => up₆ b o (fun h => hDf (h ▸ hb)) e, (hn₃.at' fun o e => up₆ _ o (Ne.symm hDC) (kp _ o hCW e)), by simpa using hl₆, ?_, by simp; omega, hlt, rfl, fun b o hbw hbW e => up₆ b o (below b (Heap.lt_size e)).2 (kp b o hbW (hk₃ b o hbw hbW e))⟩
        exact hJst _ _ _ _ h₅ fun b o hb _ e => up₆ b o (below b hb).2 e
    · have hin : i = n := by omega
      subst hin
      refine W.done _ _ _ hst' fun h₂ tk₂ hk₂ => ?_
      exact hRR _ _ h₂ tk₂ m' ys (Nat.le_refl _) (fresh _ (Nat.le_refl _)) (fresh _ hCle) hCle hDC (hn'.at' fun o e => hk₂ _ o hCw e) (hac'.at fun o e => hk₂ _ o hDw e) (hJst _ _ _ _ hJ' fun b o _ hbw e => hk₂ b o hbw e) hys
        fun b o hbw hbW e => hk₂ b o hbw (hk b o hbw hbW e)
  exact codeAny_compStart_list (loop _ rfl) (W.self 0 _ _ _ hst₁ (loop _ rfl))

/-- what a comprehension asks at its iterator -/
inductive CompAt (prog : Program) (w : World) (A : Around) (env : Env) (scope : Scope) (cl : List (Str × Addr)) (x : Str) (ifs : List Expr) (elt : Expr) (Fin : List Addr → Addr → List Value → Heap → Nat → Prop) (it : Value) (s₂ : Shared) : Prop
  | mk : ∀ (I fp wr n P St Wr), ∀ (J : Nat → List Value → Heap → Prop), it = .ref I → Walks prog w A I fp wr n P St → n ≤ sizeLine → St 0 s₂.heap → (∀ b ∈ fp, b < s₂.heap.objs.size) → (∀ b ∈ Wr, b < s₂.heap.objs.size ∧ b ∉ fp) → J 0 [] s₂.heap → (∀ i ys h h', J i ys h → (∀ b o, b < s₂.heap.objs.size → b ∉ wr → h.get? b = some o → h'.get? b = some o) → J i ys h') → (∀ i v C ys h tk m, s₂.heap.objs.size ≤ C → i < n → P i v → J i ys h → h.Ns C m → m x = some v → (∀ b o, b ∉ wr → b ∉ Wr → s₂.heap.get? b = some o → h.get? b = some o) → CompTurn prog w A s₂ Wr (compEnvC scope cl C env) ifs elt (J (i + 1)) ys h tk) → (∀ D h' tk ys, s₂.heap.objs.size ≤ D → s₂.heap.get? D = none → h'.PlainList D (List.toArray ys) → J n ys h' → ys.length ≤ n → (∀ b o, b ∉ wr → b ∉ Wr → s₂.heap.get? b = some o → h'.get? b = some o) → Fin (wr ++ Wr) D ys h' tk) → CompAt prog w A env scope cl x ifs elt Fin it s₂
theorem eval_comp {elt iter : Expr} {x : Str} {px : Pos} {ifs : List Expr} {scope : Scope} {cl : List (Str × Addr)} {pos : Pos} {Q : Value → Shared → Prop}
    (hclos : closureFor scope env = pure cl) (hcell : ∀ y ∈ scope.names, y.2 ≠ .cell) (hkind : scope.kind = .function)
    (hnames : ∀ y ∈ scope.names, y.2 = .local → scope.names.lookup y.1 = some .local) (hx : scope.names.lookup x = some .local)
    (h : wpAny (model prog w) A (eval iter env) (fun xv s₁ => wpAny (model prog w) A (pyIter xv) (fun it s₂ => CompAt prog w A env scope cl x ifs elt (fun _ D _ h' tk => Q (.ref D) { s₂ with heap := h', toks := tk }) it s₂) E s₁) E s)
    (hs : ∀ x, foldedSetIterable iter env x = pure x := by intro _; rfl) :
    wpAny (model prog w) A (eval (.ListComp elt [⟨.Name x px, iter, ifs, 0⟩] scope pos) env) Q E s := by
  rw [eval_ListComp]
  refine wpAny_comprehension_free (use := none) rfl hs hclos hkind hnames (wpAny_mono h (fun xv s₁ h₁ => wpAny_mono h₁ (fun it s₂ h₂ => ?_) fun _ _ e => e) fun _ _ e => e)
  obtain ⟨I, fp, wr, n, P, St, Wr, J, rfl, W, hsz, hst, hfp, hWr, hJ, hJst, turn, fin⟩ := h₂
  refine comp_block (RR := fun acc C => compPost (model prog w) A E none Q acc C) W hsz Wr J hcell hkind hx hst hfp hWr hJ hJst turn ?_
  intro D C h' tk m' ys hDle hD hC hCle hDC hn hpl hJn hlen hk
  refine ⟨m', hn, fun h'' hs'' => ?_⟩
  exact fin D h'' tk ys hDle hD (hpl.extBut hs''.extBut hDC) (hJst _ _ _ _ hJn fun b o hb _ e => hs''.extBut b o (Nat.ne_of_lt (Nat.lt_of_lt_of_le hb hCle)) e) hlen
    fun b o hbw hbW e => hs''.extBut b o (by rintro rfl; rw [hC] at e; cases e) (hk b o hbw hbW e)

/-- the same bound to a name: name = [..] -/
theorem assign_comp {elt iter : Expr} {x y : Str} {px py : Pos} {ifs : List Expr} {scope : Scope} {cl : List (Str × Addr)} {pos spos : Pos} {Q : Flow → Shared → Prop}
    (hsw : swapsWith (.ListComp elt [⟨.Name x px, iter, ifs, 0⟩] scope pos) (some (.Name y py)) spos.line env = pure true)
    (hclos : closureFor scope env = pure cl) (hcell : ∀ z ∈ scope.names, z.2 ≠ .cell) (hkind : scope.kind = .function)
    (hnames : ∀ z ∈ scope.names, z.2 = .local → scope.names.lookup z.1 = some .local) (hx : scope.names.lookup x = some .local)
    (h : wpAny (model prog w) A (eval iter env) (fun xv s₁ => wpAny (model prog w) A (pyIter xv) (fun it s₂ => CompAt prog w A env scope cl x ifs elt (fun W D ys h' tk =>
      ∃ m, (∀ C m', s₂.heap.objs.size ≤ C → h'.Ns C m' → D ≠ C → wpAny (model prog w) A (assign (.Name y py) env (.ref D)) (fun _ s'' => ∃ m', s''.heap.Ns C m' ∧ ∀ h'', Heap.SameBut C s''.heap h'' → Q .next { s'' with heap := h'' }) E { s₂ with heap := h', toks := tk }) ∧ m = W ∧ ys = ys) it s₂) E s₁) E s)
    (hs : ∀ x, foldedSetIterable iter env x = pure x := by intro _; rfl) :
    wpAny (model prog w) A (exec (.Assign [.Name y py] (.ListComp elt [⟨.Name x px, iter, ifs, 0⟩] scope pos) spos) env) Q E s := by
  rw [exec_Assign_Name_used _ _ _ _ hsw]
  refine wpAny_bind (wpAny_standAt (wpAny_bind ?_))
  show wpAny _ A (do let _ ← comprehension (.ListComp elt [⟨.Name x px, iter, ifs, 0⟩] scope pos) scope env _ (newList []) false (eval iter env) (some (assign (.Name y py) env))) _ _ s
  refine wpAny_bind (wpAny_mono (wpAny_comprehension_free (use := some (assign (.Name y py) env)) (Q := fun _ s' => Q .next s') rfl hs hclos hkind hnames
    (wpAny_mono h (fun xv s₁ h₁ => wpAny_mono h₁ (fun it s₂ h₂ => ?_) fun _ _ e => e) fun _ _ e => e)) (fun _ s' hq => wpAny_pure (wpAny_pure hq)) fun _ _ e => e)
  obtain ⟨I, fp, wr, n, P, St, Wr, J, rfl, W, hsz, hst, hfp, hWr, hJ, hJst, turn, fin⟩ := h₂
  refine comp_block (RR := fun acc C => compPost (model prog w) A E (some (assign (.Name y py) env)) (fun _ s' => Q .next s') acc C) W hsz Wr J hcell hkind hx hst hfp hWr hJ hJst turn ?_
  intro D C h' tk m' ys hDle hD hC hCle hDC hn hpl hJn hlen hk
  obtain ⟨_, k, _⟩ := fin D h' tk ys hDle hD hpl hJn hlen hk
  exact k C m' hCle hn hDC
end

section
variable {prog : Program} {w : World} {A : Around} {E : Value → Shared → Prop} {s : Shared} {env : Env} {g : Heap}
/-- the end of a turn of a loop that stores no other name -/
inductive JEndB (g : Heap) (L : Addr) (x : Str) (m : Str → Option Value) (I : Addr) (oI : Obj) (s : Shared) (J : List (Addr × Obj) → Prop) (s₂ : Shared) : Prop
  | mk (h' : Heap) (tk' : Nat) (m₂ : Str → Option Value) (news₂ : List (Addr × Obj)) : s₂ = { s with heap := h', toks := tk' } → Fr g L h' m₂ → News g L h' ((I, oI) :: news₂) → (∀ p ∈ news₂, p.1 ≠ I) → (∀ y, y ≠ x → m₂ y = m y) → J news₂ → JEndB g L x m I oI s J s₂
def JEnd (g : Heap) (L : Addr) (x : Str) (m : Str → Option Value) (I : Addr) (oI : Obj) (s : Shared) (J : List (Addr × Obj) → Prop) (Q : Flow → Shared → Prop) (f : Flow) (s₂ : Shared) : Prop :=
  match f with
        | .ret v => Q (.ret v) s₂
        | .brk => Q .next s₂
        | _ => JEndB g L x m I oI s J s₂
/-- over a list of ints of the base; the turns store no other name -/
theorem iter_lstJ {x : Str} {body : List Stmt} {Q : Flow → Shared → Prop} {a : Addr} {vs : List Value} {ps : List Int} {m : Str → Option Value} {news : List (Addr × Obj)} (J : Nat → List (Addr × Obj) → Prop)
    (hh : A.handled = none) (ht : g.IsList a vs.toArray) (hi : IntsAre vs ps) (F : Fr g env.locals s.heap m) (N : News g env.locals s.heap news) (hJ : J 0 news)
    (turn : ∀ I (i : Nat) n t news₁ h tk oI, ps[i]? = some n → J i news₁ → (∀ p ∈ news₁, p.1 ≠ I) → Fr g env.locals h (fun y => if y = x then some (.int n t) else m y) → News g env.locals h ((I, oI) :: news₁) →
      wpAny (model prog w) A (execs body env) (JEnd g env.locals x m I oI s (J (i + 1)) Q) (fun _ _ => False) { s with heap := h, toks := tk })
    (done : ∀ h tk (u : Str → Option Value) news₁, Fr g env.locals h (fun y => if y = x then u y else m y) → News g env.locals h news₁ → J ps.length news₁ → Q .next { s with heap := h, toks := tk }) :
    wpAny (model prog w) A (pyIter (.ref a)) (fun it s₂ => LoopF prog w A g env x body Q it s₂) E s := by
  refine iter_lst (fun i m₁ news₁ => J i news₁ ∧ ∀ y, y ≠ x → m₁ y = m y) hh ht F N ⟨hJ, fun _ _ => rfl⟩ ?_ ?_
  · rintro I i v m₁ news₁ h tk oI hv ⟨hJ₁, hm⟩ hn₁ F₁ N₁
    have e : (fun y => if y = x then some v else m₁ y) = fun y => if y = x then some v else m y := by
      funext y
      by_cases hy : y = x
      · simp [hy]
      · simp only [if_neg hy]; exact hm y hy
    rw [e] at F₁
    cases hp : ps[i]? with
    | none =>
      have h1 := List.getElem?_eq_none_iff.mp hp
      have h2 := (List.getElem?_eq_some_iff.mp hv).1
      have h3 := hi.length
      omega
    | some n =>
      obtain ⟨t, ht'⟩ := hi.get i n hp
      rw [ht'] at hv
      cases hv
      refine wpAny_mono (turn I i n t news₁ h tk oI hp hJ₁ hn₁ F₁ N₁) (fun f s₂ q => ?_) fun _ _ z => z
      cases f with
      | ret v => exact q
      | brk => exact q
      | next => obtain ⟨h', tk', m₂, news₂, e, F', N', hn', hm', hJ'⟩ := q; exact ⟨h', tk', m₂, news₂, e, F', N', hn', hJ', hm'⟩
      | cont => obtain ⟨h', tk', m₂, news₂, e, F', N', hn', hm', hJ'⟩ := q; exact ⟨h', tk', m₂, news₂, e, F', N', hn', hJ', hm'⟩
  · rintro h tk m₁ news₁ F₁ N₁ ⟨hJ₁, hm⟩
    refine done h tk m₁ news₁ ?_ N₁ (by rw [hi.length] at hJ₁; exact hJ₁)
    have e : (fun y => if y = x then m₁ y else m y) = m₁ := by
      funext y
      by_cases hy : y = x
      · simp [hy]
      · simp only [if_neg hy]; exact (hm y hy).symm
    rw [e]
    exact F₁
end

/-- the ground of a turn of a comprehension -/
theorem turn_ctx {g : Heap} {L C : Addr} {s₂ : Heap} {h : Heap} {m m₂ : Str → Option Value} {news : List (Addr × Obj)} {wr : List Addr} (F : Fr g L s₂ m) (N : News g L s₂ news) (hk : ∀ b o, b ∉ wr → s₂.get? b = some o → h.get? b = some o)
    (hw : ∀ b ∈ wr, b ≠ L ∧ g.get? b = none ∧ ∀ p ∈ news, p.1 ≠ b) (hC : s₂.objs.size ≤ C) (hn : h.Ns C m₂) :
    ∃ oC, LCg.NsObj oC m₂ ∧ Fr g L h m ∧ News g L h ((C, oC) :: news) ∧ ∀ q ∈ news, q.1 ≠ C := by
  obtain ⟨oC, e, no⟩ := LCg.ns_obj hn
  obtain ⟨oL, es, ep, eL, r⟩ := F.ns
  have hgC : g.get? C = none := by
    cases q : g.get? C with
    | none => rfl
    | some o => exact absurd (Heap.lt_size (F.keep _ _ q)) (Nat.not_lt.mpr hC)
  refine ⟨oC, no, ⟨⟨oL, es, ep, hk _ _ (fun q => (hw _ q).1 rfl) eL, r⟩, fun b o e => hk b o (fun q => by rw [(hw _ q).2.1] at e; cases e) (F.keep b o e), F.above⟩, fun p hp => ?_, fun q hq e => ?_⟩
  · rcases List.mem_cons.mp hp with rfl | hp
    · exact ⟨e, Nat.ne_of_gt (Nat.lt_of_lt_of_le (Heap.lt_size eL) hC), hgC⟩
    · exact ⟨hk _ _ (fun q => (hw _ q).2.2 p hp rfl) (N p hp).1, (N p hp).2⟩
  · have := Heap.lt_size (N q hq).1
    rw [e] at this
    exact absurd this (Nat.not_lt.mpr hC)

/-- the ends of a turn of a comprehension that changes nothing: an item, none -/
inductive PElt (s : Shared) (h : Heap) (ok : Bool) (z : Int) (y : Value) (s' : Shared) : Prop
  | mk : ok = true → (∃ t, y = .int z t) → ∀ (h' tk'), s' = { s with heap := h', toks := tk' } → Keep [] h h' → PElt s h ok z y s'
inductive PNo (s : Shared) (h : Heap) (ok : Bool) (s' : Shared) : Prop
  | mk : ok = false → ∀ (h' tk'), s' = { s with heap := h', toks := tk' } → Keep [] h h' → PNo s h ok s'
/-- an iterable of ints -/
def IntSrc (g : Heap) (ax : Addr) (news : List (Addr × Obj)) (vs : List Value) : Prop := IsTup g ax vs.toArray ∨ g.IsList ax vs.toArray ∨ ∃ n, (ax, listOf vs.toArray n) ∈ news

section
variable {prog : Program} {w : World} {A : Around} {E : Value → Shared → Prop} {s : Shared} {env : Env} {g : Heap}
/-- what one turn of a comprehension over ints has to show -/
def IntsTurn (prog : Program) (w : World) (A : Around) (env : Env) (scope : Scope) (cl : List (Str × Addr)) (x : Str) (ct elt : Expr) (g : Heap) (s : Shared) (m : Str → Option Value) (news : List (Addr × Obj)) (xs : List Int) (p : Int → Bool) (f : Int → Int) : Prop :=
  ∀ n t C oC m₂ h tk, n ∈ xs → LCg.NsObj oC m₂ → m₂ x = some (.int n t) → Fr g env.locals h m → News g env.locals h ((C, oC) :: news) → (∀ q ∈ news, q.1 ≠ C) →
      wpAny (model prog w) A (isTrue ct (compEnvC scope cl C env) (eval ct (compEnvC scope cl C env))) (fun ok s' => if ok = true then wpAny (model prog w) A (eval elt (compEnvC scope cl C env)) (PElt s h (p n) (f n)) (fun _ _ => False) s'
        else PNo s h (p n) s') (fun _ _ => False) { s with heap := h, toks := tk }
theorem comp_ints {ct elt : Expr} {x : Str} {scope : Scope} {cl : List (Str × Addr)} {ax : Addr} {vs : List Value} {xs : List Int} {m : Str → Option Value} {news : List (Addr × Obj)} {Fin : Shared → List Addr → Addr → List Value → Heap → Nat → Prop} (p : Int → Bool) (f : Int → Int)
    (hh : A.handled = none) (F : Fr g env.locals s.heap m) (N : News g env.locals s.heap news) (hs : IntSrc g ax news vs) (hi : IntsAre vs xs) (hz : xs.length < 1000)
    (turn : IntsTurn prog w A env scope cl x ct elt g s m news xs p f)
    (done : ∀ D ys wr h' tk hp, Fr g env.locals hp m → (∀ b ∈ wr, b ≠ env.locals ∧ g.get? b = none) → (∀ b o, hp.get? b = some o → b < D) → (∀ b o, b ∉ wr → hp.get? b = some o → h'.get? b = some o) → (∀ b o, s.heap.get? b = some o → hp.get? b = some o) → (∀ b o, s.heap.get? b = some o → h'.get? b = some o) → h'.PlainList D (List.toArray ys) →
      IntsAre ys ((xs.filter p).map f) → Fin { s with heap := hp } wr D ys h' tk) :
    wpAny (model prog w) A (pyIter (.ref ax)) (fun it s₂ => CompAt prog w A env scope cl x [ct] elt (Fin s₂) it s₂) E s := by
  have main : ∀ (oI : Obj) (St : Nat → Heap → Prop) (fp : List Addr) (n : Nat) (P : Nat → Value → Prop), n = vs.length → (∀ i v, P i v → vs[i]? = some v) → Walks prog w A s.heap.objs.size fp [s.heap.objs.size] n P St → St 0 (s.heap.push oI) → (∀ b ∈ fp, b < s.heap.objs.size + 1) →
      CompAt prog w A env scope cl x [ct] elt (Fin { s with heap := s.heap.push oI }) (.ref s.heap.objs.size) { s with heap := s.heap.push oI } := by
    intro oI St fp n₀ P₀ hn₀ hP₀ W st hfp
    subst hn₀
    have up : ∀ b o, s.heap.get? b = some o → (s.heap.push oI).get? b = some o := fun b o e => Heap.get?_push_of_some _ e
    have hsz : (s.heap.push oI).objs.size = s.heap.objs.size + 1 := by rw [Heap.size_push]
    have hgI : g.get? s.heap.objs.size = none := by
      cases q : g.get? s.heap.objs.size with
      | none => rfl
      | some o => exact absurd (Heap.lt_size (F.keep _ _ q)) (Nat.lt_irrefl _)
    have hLI : s.heap.objs.size ≠ env.locals := Nat.ne_of_gt F.ns.lt
    refine ⟨_, fp, _, _, _, St, [], fun i ys _ => IntsAre ys (((xs.take i).filter p).map f), rfl, W, by rw [hi.length, sizeLine_eq]; omega, st, (fun b hb => by show b < (s.heap.push oI).objs.size; rw [hsz]; exact hfp b hb), (fun b hb => nomatch hb), by simpa using IntsAre.nil, (fun i ys h h' x _ => x), ?_, ?_⟩
    · intro i v C ys h tk m₂ hC hlt hv hJ hn hx hk
      obtain ⟨oC, no, F', N', hne⟩ := turn_ctx (wr := [s.heap.objs.size]) (F.kept up) (N.grown up) (fun b o hb e => hk b o hb (fun q => nomatch q) e) (fun b hb => by
        rw [List.mem_singleton.mp hb]
        exact ⟨hLI, hgI, fun p hp => Nat.ne_of_lt (Heap.lt_size (N p hp).1)⟩) hC hn
      cases q : xs[i]? with
      | none =>
        have h1 := List.getElem?_eq_none_iff.mp q
        have h3 := hi.length
        omega
      | some n =>
        obtain ⟨t, ht⟩ := hi.get i n q
        have hv' : vs[i]? = some v := hP₀ i v hv
        rw [ht] at hv'
        cases hv'
        have et : xs.take (i + 1) = xs.take i ++ [n] := by rw [List.take_add_one, q]; rfl
        refine wpAny_tests_one (wpAny_mono (turn n t C oC m₂ h tk (List.mem_of_getElem? q) no hx F' N' hne) (fun ok s' r => ?_) fun _ _ e => e)
        cases ok with
        | true =>
          simp only [if_true] at r ⊢
          refine wpAny_mono r (fun y s'' z => ?_) fun _ _ e => e
          obtain ⟨hp, ⟨t', rfl⟩, h', tk', rfl, kp⟩ := z
          refine ⟨h', tk', rfl, kp, ?_⟩
          show IntsAre (ys ++ [_]) _
          rw [et, List.filter_append, List.map_append, List.filter_cons_of_pos hp]
          exact ksk_snoc hJ
        | false =>
          simp only [Bool.false_eq_true, if_false] at r ⊢
          obtain ⟨hp, h', tk', rfl, kp⟩ := r
          refine ⟨h', tk', rfl, kp, ?_⟩
          show IntsAre ys _
          rw [et, List.filter_append, List.map_append, List.filter_cons_of_neg (by rw [hp]; simp)]
          simpa using hJ
    · intro D h' tk ys hDle hD hpl hJ hlen hk
      have hJ' : IntsAre ys ((xs.filter p).map f) := by
        have e : xs.take vs.length = xs := List.take_of_length_le (by rw [hi.length]; exact Nat.le_refl _)
        have hJ2 : IntsAre ys (((xs.take vs.length).filter p).map f) := hJ
        rw [e] at hJ2
        exact hJ2
      refine done D ys _ h' tk (s.heap.push oI) (F.kept up) (fun b hb => ?_) (fun b o e => Nat.lt_of_lt_of_le (Heap.lt_size e) hDle) (fun b o hb e => hk b o (fun q => hb (List.mem_append_left _ q)) (fun q => nomatch q) e) up (fun b o e => hk b o (fun q => ?_) (fun q => nomatch q) (up b o e)) hpl hJ'
      · rw [List.append_nil] at hb
        rw [List.mem_singleton.mp hb]
        exact ⟨hLI, hgI⟩
      · rw [List.mem_singleton.mp q] at e
        exact absurd (Heap.lt_size e) (Nat.lt_irrefl _)
  have tup : ∀ {a : Addr}, s.heap.IsTuple a vs.toArray → wpAny (model prog w) A (pyIter (.ref a)) (fun it s₂ => CompAt prog w A env scope cl x [ct] elt (Fin s₂) it s₂) E s := by
    intro a ht
    have hlt : a < s.heap.objs.size := by obtain ⟨_, e, _⟩ := ht; exact Heap.lt_size e
    refine wpAny_pyIter_tuple ht ?_
    refine main _ _ _ _ _ (by simp) (fun i v e => by simpa using e) (Walks.tuple (prog := prog) (w := w) hh s.heap.objs.size a (Nat.ne_of_lt hlt) vs.toArray) ⟨⟨_, Heap.get?_push_size _ rfl, rfl, rfl⟩, ht.at fun o e => Heap.get?_push_of_some _ e⟩ ?_
    intro b hb
    rcases List.mem_cons.mp hb with rfl | hb
    · exact Nat.lt_succ_self _
    · rw [List.mem_singleton.mp hb]; exact Nat.lt_succ_of_lt hlt
  have lst : ∀ {a : Addr}, s.heap.IsList a vs.toArray → wpAny (model prog w) A (pyIter (.ref a)) (fun it s₂ => CompAt prog w A env scope cl x [ct] elt (Fin s₂) it s₂) E s := by
    intro a ht
    have hlt : a < s.heap.objs.size := by obtain ⟨_, e, _⟩ := ht; exact Heap.lt_size e
    refine wpAny_pyIter_list ht ?_
    refine main _ _ _ _ _ (by simp) (fun i v e => by simpa using e) (Walks.list (prog := prog) (w := w) hh s.heap.objs.size a (Nat.ne_of_lt hlt) vs.toArray) ⟨⟨_, Heap.get?_push_size _ rfl, rfl, rfl⟩, ht.at fun o e => Heap.get?_push_of_some _ e⟩ ?_
    intro b hb
    rcases List.mem_cons.mp hb with rfl | hb
    · exact Nat.lt_succ_self _
    · rw [List.mem_singleton.mp hb]; exact Nat.lt_succ_of_lt hlt
  rcases hs with ht | ht | ⟨n, ht⟩
  · exact tup (F.tup ht)
  · exact lst (F.lst ht)
  · exact lst (N.isList ht)

/-- what a comprehension over ints asks at its iterable -/
inductive IntsC (prog : Program) (w : World) (A : Around) (env : Env) (scope : Scope) (cl : List (Str × Addr)) (x : Str) (ct elt : Expr) (T : Addr → (Str → Option Value) → Str → Option Value) (Fin : Shared → Addr → Heap → Nat → Prop) (xv : Value) (s₁ : Shared) : Prop
  | mk : ∀ (g ax vs xs m news p f), xv = .ref ax → A.handled = none → Fr g env.locals s₁.heap m → News g env.locals s₁.heap news → IntSrc g ax news vs → IntsAre vs xs → xs.length < 1000 → IntsTurn prog w A env scope cl x ct elt g s₁ m news xs p f → (∀ D ys h' tk n, Fr g env.locals h' (T D m) → News g env.locals h' ((D, listOf (List.toArray ys) n) :: news) → (∀ q ∈ news, q.1 < D) → IntsAre ys ((xs.filter p).map f) → Fin s₁ D h' tk) → IntsC prog w A env scope cl x ct elt T Fin xv s₁
theorem IntsC.intro {ct elt : Expr} {x : Str} {scope : Scope} {cl : List (Str × Addr)} {ax : Addr} {vs : List Value} {xs : List Int} {m : Str → Option Value} {news : List (Addr × Obj)} {T : Addr → (Str → Option Value) → Str → Option Value} {Fin : Shared → Addr → Heap → Nat → Prop} (p : Int → Bool) (f : Int → Int)
    (hh : A.handled = none) (F : Fr g env.locals s.heap m) (N : News g env.locals s.heap news) (hs : IntSrc g ax news vs) (hi : IntsAre vs xs) (hz : xs.length < 1000)
    (turn : IntsTurn prog w A env scope cl x ct elt g s m news xs p f)
    (done : ∀ D ys h' tk n, Fr g env.locals h' (T D m) → News g env.locals h' ((D, listOf (List.toArray ys) n) :: news) → (∀ q ∈ news, q.1 < D) → IntsAre ys ((xs.filter p).map f) → Fin s D h' tk) :
    IntsC prog w A env scope cl x ct elt T Fin (.ref ax) s :=
  ⟨g, ax, vs, xs, m, news, p, f, rfl, hh, F, N, hs, hi, hz, turn, done⟩

theorem eval_ints {ct elt iter : Expr} {x : Str} {px : Pos} {scope : Scope} {cl : List (Str × Addr)} {pos : Pos} {Q : Value → Shared → Prop}
    (hclos : closureFor scope env = pure cl) (hcell : ∀ y ∈ scope.names, y.2 ≠ .cell) (hkind : scope.kind = .function)
    (hnames : ∀ y ∈ scope.names, y.2 = .local → scope.names.lookup y.1 = some .local) (hx : scope.names.lookup x = some .local)
    (h : wpAny (model prog w) A (eval iter env) (IntsC prog w A env scope cl x ct elt (fun _ m => m) (fun s₁ D h' tk => Q (.ref D) { s₁ with heap := h', toks := tk })) E s)
    (hs : ∀ x, foldedSetIterable iter env x = pure x := by intro _; rfl) :
    wpAny (model prog w) A (eval (.ListComp elt [⟨.Name x px, iter, [ct], 0⟩] scope pos) env) Q E s := by
  refine eval_comp hclos hcell hkind hnames hx (wpAny_mono h (fun xv s₁ h₁ => ?_) fun _ _ e => e) hs
  obtain ⟨g, ax, vs, xs, m, news, p, f, rfl, hh, F, N, hsr, hi, hz, turn, done⟩ := h₁
  refine comp_ints (Fin := fun s₂ _ D _ h' tk => Q (.ref D) { s₂ with heap := h', toks := tk }) p f hh F N hsr hi hz turn ?_
  intro D ys wr h' tk hp Fp hw hD hk hup hk2 ⟨n, hpl⟩ iy
  refine done D ys h' tk n (F.kept hk2) (fun q hq => ?_) (fun q hq => hD _ _ (hup _ _ (N q hq).1)) iy
  rcases List.mem_cons.mp hq with rfl | hq
  · refine ⟨hpl, ?_, ?_⟩
    · obtain ⟨_, _, _, eL, _⟩ := Fp.ns
      exact Nat.ne_of_gt (hD _ _ eL)
    · cases q : g.get? D with
      | none => rfl
      | some o => exact absurd (hD _ _ (Fp.keep _ _ q)) (Nat.lt_irrefl _)
  · exact ⟨hk2 _ _ (N q hq).1, (N q hq).2⟩

theorem assign_ints {ct elt iter : Expr} {x y : Str} {px py : Pos} {scope : Scope} {cl : List (Str × Addr)} {pos spos : Pos} {Q : Flow → Shared → Prop}
    (hsw : swapsWith (.ListComp elt [⟨.Name x px, iter, [ct], 0⟩] scope pos) (some (.Name y py)) spos.line env = pure true)
    (hclos : closureFor scope env = pure cl) (hcell : ∀ z ∈ scope.names, z.2 ≠ .cell) (hkind : scope.kind = .function)
    (hnames : ∀ z ∈ scope.names, z.2 = .local → scope.names.lookup z.1 = some .local) (hx : scope.names.lookup x = some .local) (hy : env.kindOf y = some .local)
    (hp : (env.scope.kind == .class || (env.scope.kind == .module && env.locals != env.globals)) = false)
    (h : wpAny (model prog w) A (eval iter env) (IntsC prog w A env scope cl x ct elt (fun D m z => if z = y then some (.ref D) else m z) (fun s₁ _ h' tk => Q .next { s₁ with heap := h', toks := tk })) E s)
    (hs : ∀ x, foldedSetIterable iter env x = pure x := by intro _; rfl) :
    wpAny (model prog w) A (exec (.Assign [.Name y py] (.ListComp elt [⟨.Name x px, iter, [ct], 0⟩] scope pos) spos) env) Q E s := by
  refine assign_comp hsw hclos hcell hkind hnames hx (wpAny_mono h (fun xv s₁ h₁ => ?_) fun _ _ e => e) hs
  obtain ⟨g, ax, vs, xs, m, news, p, f, rfl, hh, F, N, hsr, hi, hz, turn, done⟩ := h₁
  refine comp_ints (Fin := fun s₂ W D ys h' tk => ∃ m, (∀ C m', s₂.heap.objs.size ≤ C → h'.Ns C m' → D ≠ C → wpAny (model prog w) A (assign (.Name y py) env (.ref D)) (fun _ s'' => ∃ m', s''.heap.Ns C m' ∧ ∀ h'', Heap.SameBut C s''.heap h'' → Q .next { s'' with heap := h'' }) E { s₂ with heap := h', toks := tk }) ∧ m = W ∧ ys = ys) p f hh F N hsr hi hz turn ?_
  intro D ys wr h' tk hp Fp hw hD hk hup hk2 ⟨n, hpl⟩ iy
  refine ⟨_, fun C m' hC hn hDC => ?_, rfl, rfl⟩
  have F' := F.kept hk2
  have hCL : env.locals ≠ C := Nat.ne_of_lt (Nat.lt_of_lt_of_le Fp.ns.lt hC)
  have hDg : g.get? D = none := by
    cases q : g.get? D with
    | none => rfl
    | some o => exact absurd (hD _ _ (Fp.keep _ _ q)) (Nat.lt_irrefl _)
  have hDL : D ≠ env.locals := by
    obtain ⟨_, _, _, eL, _⟩ := Fp.ns
    exact Nat.ne_of_gt (hD _ _ eL)
  have hCg : g.get? C = none := by
    cases q : g.get? C with
    | none => rfl
    | some o => exact absurd (Heap.lt_size (Fp.keep _ _ q)) (Nat.not_lt.mpr hC)
  have hL0 : g.get? env.locals = none := Heap.get?_none_of_le F'.above
  refine wpAny_assign_Name (wpAny_storeName_local hy F'.ns (fun h₂ hn₂ hs₂ => ?_) (by assumption))
  have F₂ : Fr g env.locals h₂ (fun z => if z = y then some (.ref D) else m z) := ⟨hn₂, fun b o e => hs₂.extBut b o (fun q => by rw [q, hL0] at e; cases e) (F'.keep b o e), F'.above⟩
  refine ⟨m', hn.sameBut hs₂ hCL.symm, fun h'' hs'' => ?_⟩
  have N' : News g env.locals h' ((D, listOf (List.toArray ys) n) :: news) := fun q hq => by
    rcases List.mem_cons.mp hq with rfl | hq
    · exact ⟨hpl, hDL, hDg⟩
    · exact ⟨hk2 _ _ (N q hq).1, (N q hq).2⟩
  have hDC' : ∀ q ∈ (D, listOf (List.toArray ys) n) :: news, q.1 ≠ C := fun q hq => by
    rcases List.mem_cons.mp hq with rfl | hq
    · exact hDC
    · exact Nat.ne_of_lt (Nat.lt_of_lt_of_le (Heap.lt_size (hup _ _ (N q hq).1)) hC)
  refine done D ys h'' _ n (F₂.change hs'' hCL.symm hCg) (fun q hq => ?_) (fun q hq => hD _ _ (hup _ _ (N q hq).1)) iy
  exact ⟨hs''.extBut _ _ (hDC' q hq) (hs₂.extBut _ _ (N' q hq).2.1 (N' q hq).1), (N' q hq).2⟩
end
end SComps
theorem word2 : True := by
  k_with_none
  k_with "call builtin:len" => (k_here; (with_reducible show wpAny _ _ (call (Value.builtin "len") [Value.ref _]) _ _ _); (with_unfolding_all refine' len_tupI ?k1 ?k2 ?k3 ?_; (case k1 => first | assumption | exact Fr.tup (by assumption) (by assumption)); (case k2 => l_ints); (case k3 => l_fit); k_whole))
  k_with "call builtin:len" => (k_here; (with_reducible show wpAny _ _ (call (Value.builtin "len") [Value.ref _]) _ _ _); (with_unfolding_all refine' len_lst ?k1 ?k3 ?_; (case k1 => exact News.isList (by k_asm) (by k_mem)); (case k3 => (simp only [List.length_map]; omega)); k_whole))
  k_with "subscriptTail" => (k_here; (with_reducible show wpAny _ _ (subscriptTail _ _ (Value.ref _) (Value.int _ _)) _ _ _); (with_unfolding_all refine' item_tuple_ints ?k1 ?k2 ?k3 ?k4 ?k5 ?_ ?k6 ?k7; (case k1 => first | assumption | exact Fr.tup (by assumption) (by assumption)); (case k2 => l_ints); (case k3 => omega); (case k4 => omega); (case k5 => omega); (case k6 => with_unfolding_all rfl); (case k7 => (intro _; with_unfolding_all rfl)); k_whole); intro _)
  k_with "subscriptTail" => (k_here; (with_reducible show wpAny _ _ (subscriptTail _ _ (Value.ref _) (Value.int _ _)) _ _ _); (with_unfolding_all refine' item_listR ?k1 ?k2 ?k3 ?k4 ?_ ?k6; (case k4 => assumption); (case k1 => exact News.isList (by k_asm) (by k_mem)); (case k2 => omega); (case k3 => omega); (case k6 => with_unfolding_all rfl); k_whole))
  trivial
section SPipe

inductive CupAt (w : World) (h : Heap) (c cells : Addr) (i : Int) : Prop
  | mk : ∀ (oc t), h.get? c = some oc → oc.IsDictOf (strKind PySem.Challenge.rw_rg0222_01.row.prog w) [(Str.ofString "cells", .ref cells), (Str.ofString "at", .int i t)] → CupAt w h c cells i
def cellV (xs : List Int) (i : Int) : Int := if i < xs.length then xs.getD i.toNat 0 else 6 * i * i + 5 * i + 9
def pipeV (xs : List Int) (i many : Int) : Int := (cellV xs i).fmod 97 |>.fmod many



theorem pipe_c {w : World} {mean : ExcName → Option Value} {mg mb : Str → Option Value} {B : Heap} (X : (Mine.hd.heap_39 w.params).In B) (T : Top Mine.hd.view_39 (looseW Mine.hd.view_39 []) mean mg mb B)
    {s : Shared} {c cells : Addr} {i many : Int} {tm : Tok} {xs : List Int} (hB : B.StaysIn s.heap) (hc : CupAt w s.heap c cells i) (hs : SeqInts s.heap cells xs) (hne : cells ≠ c) (hcB : B.get? c = none)
    (h0 : 0 ≤ i) (h1 : i < 1000000) (hm : 0 < many) (hm2 : many < 1000) (hxs : xs.length ≤ 60) {Q E : Value → Shared → Prop}
    (hret : ∀ h' tk t, Keep [c] s.heap h' → CupAt w h' c cells (i + 1) → Q (.int (pipeV xs i many) t) { s with heap := h', toks := tk }) :
    wpAny (model PySem.Challenge.rw_rg0222_01.row.prog w) (lo 700 5000) (call (.ref 715) [.ref c, .int many tm]) Q E s := by
  obtain ⟨oc, t, hoc, hd⟩ := hc
  refine wpAny_mono (Q := Q) (E := fun _ _ => False) ?_ (fun _ _ h => h) (fun _ _ h => h.elim)
  refine wpAny_call ?_
  k_dflt (refine' enter (binds := [(Str.ofString "cup", .ref c), (Str.ofString "many", .int many tm)]) [c] X T.nolimit hB (by simpa using hcB) ?k6 ?k7 ?k8 ?k9 ?kB ?_ ?c5 ?c2 ?c3 ?c4; (case k6 => k_is); (case k7 => k_is); (case k8 => decide); (case k9 => exact BindsTo.of_eq rfl); (case c5 => decide); (case kB => exact locs rfl); (case c2 => exact rfl); (case c3 => exact rfl); (case c4 => exact rfl))
  intro g L h₁ hg hL F hk₁ st Xg
  have Tg := T.keeps st
  have N : News g L h₁ [(c, oc)] := by
    intro p hp
    rw [List.mem_singleton.mp hp]
    exact ⟨hk₁ _ _ hoc, hL ▸ Nat.ne_of_lt (Heap.lt_size hoc), hg ▸ hideAll_none _ (.head _)⟩
  obtain ⟨vs, iv, hl | hl⟩ := hs
  · have hl' : g.IsList cells vs.toArray := by
      obtain ⟨o, ho, r⟩ := hl
      exact ⟨o, hg ▸ hideAll_get _ ho (by simpa using hne), r⟩
    refine wpAny_mono (E := fun _ _ => False) ?_ (fun _ _ h => h) (fun _ _ h => h.elim)
    k_fold
    k_steps
    all_goals (
      refine ret_int (hret _ _ _ (Keep.of_base hg (Fr.keep (by assumption))) ⟨_, _, (News.get (by assumption) (.head _)), by assumption⟩) ?_
      first
        | (rename (i < (xs.length : Int)) => hlt; simp only [pipeV, cellV, hlt, if_true]; done)
        | (rename (¬ i < (xs.length : Int)) => hlt; simp only [pipeV, cellV, hlt, if_false]; done))
  · have hl' : IsTup g cells vs.toArray := by
      obtain ⟨o, ho, r⟩ := hl
      exact ⟨o, hg ▸ hideAll_get _ ho (by simpa using hne), r⟩
    refine wpAny_mono (E := fun _ _ => False) ?_ (fun _ _ h => h) (fun _ _ h => h.elim)
    k_fold
    k_steps
    all_goals (
      refine ret_int (hret _ _ _ (Keep.of_base hg (Fr.keep (by assumption))) ⟨_, _, (News.get (by assumption) (.head _)), by assumption⟩) ?_
      first
        | (rename (i < (xs.length : Int)) => hlt; simp only [pipeV, cellV, hlt, if_true]; done)
        | (rename (¬ i < (xs.length : Int)) => hlt; simp only [pipeV, cellV, hlt, if_false]; done))
end SPipe
section SSteps
abbrev prog0 : Program := PySem.Challenge.rw_rg0222_01.row.prog
abbrev Tp (mean : ExcName → Option Value) (mg mb : Str → Option Value) (h : Heap) : Prop := Top Mine.hd.view_39 (looseW Mine.hd.view_39 []) mean mg mb h

/-- one step of a proof: a tuple whose second item is a tuple of ints -/
inductive StepAt (h : Heap) (a : Addr) (c : List Int) : Prop
  | mk : ∀ (rv ca pv nv), IsTup h a (List.toArray [rv, .ref ca, pv, nv]) → TupInts h ca c → StepAt h a c
inductive ProofD (h : Heap) (dp st nm : Addr) (em : Int) : Prop
  | mk (a1 a2 a3 : Int) (t1 t2 t3 t4 : Tok) : h.get? dp = some (dictOf [⟨a1, .str (Str.ofString "steps") t1, .ref st⟩, ⟨a2, .str (Str.ofString "named") t2, .ref nm⟩, ⟨a3, .str (Str.ofString "empty") t3, .int em t4⟩] 3) → ProofD h dp st nm em
/-- the object, its dict, its list -/
structure ProofAt (h : Heap) (pr dp st nm : Addr) (as : List Addr) (em : Int) : Prop where
  inst : h.get? pr = some (instObj 705 dp)
  dict : ProofD h dp st nm em
  list : ∃ n, h.get? st = some (listOf (List.toArray (as.map Value.ref)) n)
structure StepsAt (h : Heap) (as : List Addr) (cls : List (List Int)) : Prop where
  len : as.length = cls.length
  at_ : ∀ (i : Nat) (a : Addr) (c : List Int), as[i]? = some a → cls[i]? = some c → StepAt h a c
theorem ProofAt.ne {h : Heap} {pr dp st nm : Addr} {as : List Addr} {em : Int} (P : ProofAt h pr dp st nm as em) : pr ≠ dp ∧ pr ≠ st ∧ dp ≠ st := by
  obtain ⟨h1, ⟨a1, a2, a3, t1, t2, t3, t4, h2⟩, n, h3⟩ := P
  refine ⟨?_, ?_, ?_⟩ <;> rintro rfl
  · rw [h1] at h2; exact absurd (show Value.ref 705 = Value.type "dict" from congrArg Obj.cls (Option.some.inj h2)) (by decide)
  · rw [h1] at h3; exact absurd (show Value.ref 705 = Value.type "list" from congrArg Obj.cls (Option.some.inj h3)) (by decide)
  · rw [h2] at h3; exact absurd (show Value.type "dict" = Value.type "list" from congrArg Obj.cls (Option.some.inj h3)) (by decide)

theorem StepAt.mono {h h' : Heap} {a : Addr} {c : List Int} (x : StepAt h a c) (k : ∀ b o, h.get? b = some o → (∀ es n, o.data ≠ .dict es n) → h'.get? b = some o) : StepAt h' a c := by
  obtain ⟨rv, ca, pv, nv, ⟨o, ho, hc, n, hd⟩, vs, iv, o', ho', hc', n', hd'⟩ := x
  exact ⟨rv, ca, pv, nv, ⟨o, k _ _ ho (by intro es n q; rw [hd] at q; cases q), hc, n, hd⟩, vs, iv, o', k _ _ ho' (by intro es n q; rw [hd'] at q; cases q), hc', n', hd'⟩

theorem hide1 {g h : Heap} {W : List Addr} (hg : g = hideAll h W) {a : Addr} {o : Obj} (e : h.get? a = some o) (n : a ∉ W) : g.get? a = some o := hg ▸ hideAll_get _ e n

section
variable {w : World} {mean : ExcName → Option Value} {mg mb : Str → Option Value} {B : Heap} {s : Shared} {Q E : Value → Shared → Prop} {pr dp st nm : Addr} {as : List Addr} {em : Int} {cls : List (List Int)}


/-- the ledger of a proof -/
theorem ProofAt.news {g h h₁ : Heap} {L : Addr} (hL : L = h.objs.size) (hk : ∀ b o, h.get? b = some o → h₁.get? b = some o) {a1 a2 a3 : Int} {t1 t2 t3 t4 : Tok} {n : Nat} (hg : g = hideAll h [st, pr, dp])
    (h1 : h.get? pr = some (instObj 705 dp)) (h2 : h.get? dp = some (dictOf [⟨a1, .str (Str.ofString "steps") t1, .ref st⟩, ⟨a2, .str (Str.ofString "named") t2, .ref nm⟩, ⟨a3, .str (Str.ofString "empty") t3, .int em t4⟩] 3))
    (h3 : h.get? st = some (listOf (List.toArray (as.map Value.ref)) n)) :
    News g L h₁ [(st, listOf (List.toArray (as.map Value.ref)) n), (pr, instObj 705 dp), (dp, dictOf [⟨a1, .str (Str.ofString "steps") t1, .ref st⟩, ⟨a2, .str (Str.ofString "named") t2, .ref nm⟩, ⟨a3, .str (Str.ofString "empty") t3, .int em t4⟩] 3)] := by
  intro p hp
  have f : ∀ a o, h.get? a = some o → a ∈ [st, pr, dp] → h₁.get? a = some o ∧ a ≠ L ∧ g.get? a = none := fun a o e m => ⟨hk _ _ e, hL ▸ Nat.ne_of_lt (Heap.lt_size e), hg ▸ hideAll_none _ m⟩
  rcases List.mem_cons.mp hp with rfl | hp
  · exact f _ _ h3 (by simp)
  rcases List.mem_cons.mp hp with rfl | hp
  · exact f _ _ h1 (by simp)
  rw [List.mem_singleton.mp hp]
  exact f _ _ h2 (by simp)

theorem size_c (X : (Mine.hd.heap_39 w.params).In B) (T : Tp mean mg mb B) (hB : B.StaysIn s.heap) (P : ProofAt s.heap pr dp st nm as em) (hO : ∀ a ∈ [st, pr, dp], B.get? a = none) (hlen : as.length < 1000)
    (hret : ∀ h' tk t, Keep [] s.heap h' → Q (.int (as.length : Nat) t) { s with heap := h', toks := tk }) :
    wpAny (model PySem.Challenge.rw_rg0222_01.row.prog w) (lo 700 5000) (call (.ref 624) [.ref pr]) Q E s := by
  obtain ⟨d1, d2, d3⟩ := P.ne
  obtain ⟨a1, a2, a3, t1, t2, t3, t4, hdp⟩ := P.dict
  obtain ⟨n, hst⟩ := P.list
  have hpr := P.inst
  refine wpAny_call ?_
  k_dflt (refine' enter (binds := [(Str.ofString "self", .ref pr)]) [st, pr, dp] X T.nolimit hB hO ?k6 ?k7 ?k8 ?k9 ?kB ?_ ?c5 ?c2 ?c3 ?c4; (case k6 => k_is); (case k7 => k_is); (case k8 => decide); (case k9 => exact BindsTo.of_eq rfl); (case c5 => decide); (case kB => exact locs rfl); (case c2 => exact rfl); (case c3 => exact rfl); (case c4 => exact rfl))
  intro g L h₁ hg hL F hk₁ sg Xg
  have Tg := T.keeps sg
  have N := ProofAt.news hL hk₁ hg hpr hdp hst
  refine wpAny_mono (E := fun _ _ => False) ?_ (fun _ _ h => h) (fun _ _ h => h.elim)
  k_fold
  k_steps
  exact ret_int (hret _ _ _ (Keep.of_all hk₁)) (by rw [List.length_map])

theorem clause_c (X : (Mine.hd.heap_39 w.params).In B) (T : Tp mean mg mb B) (hB : B.StaysIn s.heap) (P : ProofAt s.heap pr dp st nm as em) (hO : ∀ a ∈ [st, pr, dp], B.get? a = none) (hlen : as.length < 1000)
    {i : Int} {ti : Tok} {a ca : Addr} {rv pv nv : Value} (h0 : 0 ≤ i) (ha : as[i.toNat]? = some a) (hs : IsTup s.heap a (List.toArray [rv, .ref ca, pv, nv])) (hao : a ∉ [st, pr, dp])
    (hret : ∀ h' tk, Keep [] s.heap h' → Q (.ref ca) { s with heap := h', toks := tk }) :
    wpAny (model PySem.Challenge.rw_rg0222_01.row.prog w) (lo 700 5000) (call (.ref 631) [.ref pr, .int i ti]) Q E s := by
  obtain ⟨d1, d2, d3⟩ := P.ne
  obtain ⟨a1, a2, a3, t1, t2, t3, t4, hdp⟩ := P.dict
  obtain ⟨n, hst⟩ := P.list
  have hpr := P.inst
  have hi2 : i < 1000 := by
    have := (List.getElem?_eq_some_iff.mp ha).1
    omega
  have hx : (as.map Value.ref)[i.toNat]? = some (.ref a) := by rw [List.getElem?_map, ha]; rfl
  refine wpAny_call ?_
  k_dflt (refine' enter (binds := [(Str.ofString "self", .ref pr), (Str.ofString "step", .int i ti)]) [st, pr, dp] X T.nolimit hB hO ?k6 ?k7 ?k8 ?k9 ?kB ?_ ?c5 ?c2 ?c3 ?c4; (case k6 => k_is); (case k7 => k_is); (case k8 => decide); (case k9 => exact BindsTo.of_eq rfl); (case c5 => decide); (case kB => exact locs rfl); (case c2 => exact rfl); (case c3 => exact rfl); (case c4 => exact rfl))
  intro g L h₁ hg hL F hk₁ sg Xg
  have Tg := T.keeps sg
  have N := ProofAt.news hL hk₁ hg hpr hdp hst
  have hsg : IsTup g a (List.toArray [rv, .ref ca, pv, nv]) := by
    obtain ⟨o, ho, r⟩ := hs
    exact ⟨o, hide1 hg ho hao, r⟩
  refine wpAny_mono (E := fun _ _ => False) ?_ (fun _ _ h => h) (fun _ _ h => h.elim)
  k_fold
  k_steps
  exact hret _ _ (Keep.of_all hk₁)
end
end SSteps
section SSmall

def iab (x : Int) : Int := if x < 0 then -x else x
theorem getD_mem {xs : List Int} {i : Int} (h0 : 0 ≤ i) (h1 : i < xs.length) : xs.getD i.toNat 0 ∈ xs := by
  have h : i.toNat < xs.length := by omega
  rw [List.getD_eq_getElem?_getD, List.getElem?_eq_getElem h]
  exact List.getElem_mem h
theorem tidy_absurd {xs : List Int} {i : Int} (hs : ∀ (i : Nat) x y, xs[i]? = some x → xs[i + 1]? = some y → iab x < iab y) (h0 : 0 < i) (h1 : i < xs.length)
    (h : (if xs.getD i.toNat 0 < 0 then -xs.getD i.toNat 0 else xs.getD i.toNat 0) ≤ if xs.getD (i - 1).toNat 0 < 0 then -xs.getD (i - 1).toNat 0 else xs.getD (i - 1).toNat 0) : False := by
  have e1 : i.toNat < xs.length := by omega
  have e2 : (i - 1).toNat < xs.length := by omega
  have e3 : i.toNat = (i - 1).toNat + 1 := by omega
  have e4 : (i - 1).toNat + 1 < xs.length := by omega
  have := hs (i - 1).toNat _ _ (List.getElem?_eq_getElem e2) (List.getElem?_eq_getElem e4)
  rw [e3, List.getD_eq_getElem?_getD, List.getD_eq_getElem?_getD, List.getElem?_eq_getElem e4, List.getElem?_eq_getElem e2] at h
  unfold iab at this
  simp only [Option.getD_some] at h
  omega
section
variable {w : World} {mean : ExcName → Option Value} {mg mb : Str → Option Value} {B : Heap} {s : Shared} {Q E : Value → Shared → Prop} {pr dp st nm : Addr} {as : List Addr} {em : Int} {cls : List (List Int)}

theorem order_of_c (X : (Mine.hd.heap_39 w.params).In B) (T : Tp mean mg mb B) (hB : B.StaysIn s.heap) {x : Int} {tx : Tok} 
    (hret : ∀ h' tk D t, Keep [] s.heap h' → s.heap.get? D = none → h'.get? D = some { cls := .type "tuple", data := .seq (List.toArray [.int (iab x) t, .bool (decide (0 < x))]) } → Q (.ref D) { s with heap := h', toks := tk }) :
    wpAny (model PySem.Challenge.rw_rg0222_01.row.prog w) (lo 700 5000) (call (.ref 563) [.int x tx]) Q E s := by
  refine wpAny_call ?_
  k_dflt (refine' enter (binds := [(Str.ofString "literal", .int x tx)]) [] X T.nolimit hB (by simp) ?k6 ?k7 ?k8 ?k9 ?kB ?_ ?c5 ?c2 ?c3 ?c4; (case k6 => k_is); (case k7 => k_is); (case k8 => decide); (case k9 => exact BindsTo.of_eq rfl); (case c5 => decide); (case kB => exact locs rfl); (case c2 => exact rfl); (case c3 => exact rfl); (case c4 => exact rfl))
  intro g L h₁ hg hL F hk₁ sg Xg
  have Tg := T.keeps sg
  have N : News g L h₁ [] := News.nil
  refine wpAny_mono (E := fun _ _ => False) ?_ (fun _ _ h => h) (fun _ _ h => h.elim)
  k_fold
  k_steps
  rename News _ _ _ _ => N'
  exact hret _ _ _ _ (Keep.of_base hg (Fr.keep (by assumption))) (by have q := (N' _ (.head _)).2.2; rw [hg] at q; exact q) (N' _ (.head _)).1

theorem is_tidy_c (X : (Mine.hd.heap_39 w.params).In B) (T : Tp mean mg mb B) (hB : B.StaysIn s.heap) {a : Addr} {xs : List Int} (ha : TupInts s.heap a xs) (hlen : xs.length < 1000)
    (h0 : ∀ x ∈ xs, x ≠ 0) (hs : ∀ (i : Nat) x y, xs[i]? = some x → xs[i + 1]? = some y → iab x < iab y)
    (hret : ∀ h' tk, Keep [] s.heap h' → Q (.bool true) { s with heap := h', toks := tk }) :
    wpAny (model PySem.Challenge.rw_rg0222_01.row.prog w) (lo 700 5000) (call (.ref 577) [.ref a]) Q E s := by
  refine wpAny_call ?_
  k_dflt (refine' enter (binds := [(Str.ofString "clause", .ref a)]) [] X T.nolimit hB (by simp) ?k6 ?k7 ?k8 ?k9 ?kB ?_ ?c5 ?c2 ?c3 ?c4; (case k6 => k_is); (case k7 => k_is); (case k8 => decide); (case k9 => exact BindsTo.of_eq rfl); (case c5 => decide); (case kB => exact locs rfl); (case c2 => exact rfl); (case c3 => exact rfl); (case c4 => exact rfl))
  intro g L h₁ hg hL F hk₁ sg Xg
  have Tg := T.keeps sg
  have N : News g L h₁ [] := News.nil
  obtain ⟨vs, iv, ht⟩ := ha
  have ht' : IsTup g a vs.toArray := by
    obtain ⟨o, ho, r⟩ := ht
    exact ⟨o, hide1 hg ho (by simp), r⟩
  refine wpAny_mono (E := fun _ _ => False) ?_ (fun _ _ h => h) (fun _ _ h => h.elim)
  k_fold
  k_steps
  · exfalso
    rename (_ < 0 + _) => q1
    rename (0 ≤ _) => q0
    rename (_ = 0) => q2
    refine h0 _ ?_ q2
    exact getD_mem q0 (by omega)
  · exfalso
    rename (_ < 0 + _) => q1
    rename (0 < _) => q0
    rename (_ ≤ _) => q2
    exact tidy_absurd hs q0 (by omega) q2
  · exact hret _ _ (Keep.of_base hg (Fr.keep (by assumption)))
end
end SSmall
theorem word4 : True := by
  k_with_none
  k_with "call builtin:len" => (k_here; (with_reducible show wpAny _ _ (call (Value.builtin "len") [Value.ref _]) _ _ _); (with_unfolding_all refine' len_tupI ?k1 ?k2 ?k3 ?_; (case k1 => first | assumption | exact Fr.tup (by assumption) (by assumption)); (case k2 => l_ints); (case k3 => l_fit); k_whole))
  k_with "call builtin:len" => (k_here; (with_reducible show wpAny _ _ (call (Value.builtin "len") [Value.ref _]) _ _ _); (with_unfolding_all refine' len_lst ?k1 ?k3 ?_; (case k1 => exact News.isList (by k_asm) (by k_mem)); (case k3 => (simp only [List.length_map]; omega)); k_whole))
  k_with "subscriptTail" => (k_here; (with_reducible show wpAny _ _ (subscriptTail _ _ (Value.ref _) (Value.int _ _)) _ _ _); (with_unfolding_all refine' item_tuple_ints ?k1 ?k2 ?k3 ?k4 ?k5 ?_ ?k6 ?k7; (case k1 => first | assumption | exact Fr.tup (by assumption) (by assumption)); (case k2 => l_ints); (case k3 => omega); (case k4 => omega); (case k5 => omega); (case k6 => with_unfolding_all rfl); (case k7 => (intro _; with_unfolding_all rfl)); k_whole); intro _)
  k_with "subscriptTail" => (k_here; (with_reducible show wpAny _ _ (subscriptTail _ _ (Value.ref _) (Value.int _ _)) _ _ _); (with_unfolding_all refine' item_listR ?k1 ?k2 ?k3 ?k4 ?_ ?k6; (case k4 => assumption); (case k1 => exact News.isList (by k_asm) (by k_mem)); (case k2 => omega); (case k3 => omega); (case k6 => with_unfolding_all rfl); k_whole))
  k_with "exec For Name Name cons nil" => (k_here; (rename Fr _ _ _ _ => lF'); (with_unfolding_all refine' for_walksF lF' ?k1 ?k2 ?_; (case k1 => exact rfl); (case k2 => exact rfl); k_whole))
  k_with "exec For Name Call cons nil" => (k_here; (rename Fr _ _ _ _ => lF'); (with_unfolding_all refine' for_walksF lF' ?k1 ?k2 ?_; (case k1 => exact rfl); (case k2 => exact rfl); k_whole))
  trivial
section SAdd

def ruleNames : List Str := [Str.ofString "input", Str.ofString "define", Str.ofString "ite_term", Str.ofString "three", Str.ofString "bits", Str.ofString "congruence", Str.ofString "farkas", Str.ofString "branch", Str.ofString "divide", Str.ofString "cut", Str.ofString "resolve"]
theorem rules_at {w : World} {h : Heap} (X : (Mine.hd.heap_39 w.params).In h) : ∃ vs, IsTup h 556 (List.toArray vs) ∧ StrsAre vs ruleNames := by
  have e : ∃ o vs n, (Mine.hd.heap_39 w.params).lookup 556 = some o ∧ o.cls = .type "tuple" ∧ o.data = .seq (List.toArray vs) n ∧ StrsAre vs ruleNames := by
    refine ⟨_, _, _, by k_is, rfl, rfl, ?_⟩
    unfold ruleNames
    repeat' constructor
  obtain ⟨o, vs, n, e, hc, hd, hs⟩ := e
  exact ⟨vs, ⟨o, X _ _ e, hc, n, hd⟩, hs⟩
theorem notin_rules {w : World} {prog : Program} {A : Around} {E Q : Value → Shared → Prop} {s : Shared} {g : Heap} {L : Addr} {m : Str → Option Value} {k : Str} {t : Tok} (F : Fr g L s.heap m) (X : (Mine.hd.heap_39 w.params).In g)
    (e : ruleNames.any (· == k) = true) (h : Q (.bool false) s) : wpAny (model prog w) A (compareOp .NotIn (.str k t) (.ref 556)) Q E s := by
  obtain ⟨vs, ⟨o, ho, hc, n, hd⟩, hs⟩ := rules_at (X.keeps F.keep)
  refine SeqAt.notIn_tupleAt (isStrOf k) ⟨o, ho, hc, n, hd⟩ (fun y hy => (eq_isStrOf k t hs y (by simpa using hy)).at _ _) ?_
  rw [← Array.any_toList, show (List.toArray vs).toList = vs from rfl, any_isStrOf k hs, e]
  exact h
theorem word5 : True := by
  k_with "compareOp NotIn str ref" => (k_here; (with_reducible show wpAny _ _ (compareOp CmpOp.NotIn (Value.str _ _) (Value.ref 556)) _ _ _); (refine notin_rules (by k_asm) (by k_asm) (by first | assumption | decide +kernel) ?_))
  trivial

section
variable {w : World} {mean : ExcName → Option Value} {mg mb : Str → Option Value} {B : Heap} {s : Shared} {Q E : Value → Shared → Prop} {pr dp st nm : Addr} {as : List Addr} {em : Int} {cls : List (List Int)}

theorem add_end {g h' : Heap} {L D : Addr} {m : Str → Option Value} {n : Nat} {a1 a2 a3 : Int} {t1 t2 t3 t4 : Tok} {em' : Int} {vals : List Value} {nD tk : Nat} {t : Tok} (hg : g = hideAll s.heap [st, pr, dp]) (F : Fr g L h' m)
    (N : News g L h' [(D, ⟨.type "tuple", none, .seq (List.toArray vals) nD, #[]⟩), (st, listOf ((List.map Value.ref as).toArray.push (.ref D)) n), (pr, instObj 705 dp), (dp, dictOf [⟨a1, .str (Str.ofString "steps") t1, .ref st⟩, ⟨a2, .str (Str.ofString "named") t2, .ref nm⟩, ⟨a3, .str (Str.ofString "empty") t3, .int em' t4⟩] 3)])
    (l : st < D ∧ pr < D ∧ dp < D) (hpr : s.heap.get? pr = some (instObj 705 dp))
    (hret : ∀ h' tk t a em', Keep [st, dp] s.heap h' → ProofAt h' pr dp st nm (as ++ [a]) em' → s.heap.get? a = none → IsTup h' a (List.toArray vals) → Q (.int (as.length : Nat) t) { s with heap := h', toks := tk }) :
    Q (.int ((List.map Value.ref as).length : Nat) t) { s with heap := h', toks := tk } := by
  rw [List.length_map]
  have eD := N _ (.head _)
  have eS := (N _ (.tail _ (.head _))).1
  have eP := (N _ (.tail _ (.tail _ (.head _)))).1
  have eT := (N _ (.tail _ (.tail _ (.tail _ (.head _))))).1
  refine hret h' tk t D em' ((Keep.of_base hg F.keep).shrink fun a m => ?_) ⟨eP, ⟨a1, a2, a3, t1, t2, t3, t4, eT⟩, n, ?_⟩ ?_ ⟨_, eD.1, rfl, nD, rfl⟩
  · simp only [List.mem_cons, List.not_mem_nil, or_false] at m
    rcases m with rfl | rfl | rfl
    · simp
    · exact .inr (same_of hpr eP)
    · simp
  · rw [eS, List.map_append]
    simp
  · cases q : s.heap.get? D with
    | none => rfl
    | some o =>
      have := hide1 hg q (a := D) (by
        obtain ⟨l1, l2, l3⟩ := l
        have := Nat.ne_of_gt l1
        have := Nat.ne_of_gt l2
        have := Nat.ne_of_gt l3
        simp; exact ⟨by assumption, by assumption, by assumption⟩)
      rw [eD.2.2] at this; cases this

theorem add_c (X : (Mine.hd.heap_39 w.params).In B) (T : Tp mean mg mb B) (hB : B.StaysIn s.heap) (P : ProofAt s.heap pr dp st nm as em) (hO : ∀ a ∈ [st, pr, dp], B.get? a = none) (hlen : as.length < 1000)
    {rl : Str} {tr : Tok} {ca pa : Addr} {c ps : List Int} {nv : Value} (hr : ruleNames.any (· == rl) = true) (hc : TupInts s.heap ca c) (hp : TupInts s.heap pa ps) (hcl : c.length < 1000) (hpl : ps.length < 1000)
    (hca : ca ∉ [st, pr, dp]) (hpa : pa ∉ [st, pr, dp])
    (h0 : ∀ x ∈ c, x ≠ 0) (hs : ∀ (i : Nat) x y, c[i]? = some x → c[i + 1]? = some y → iab x < iab y) (hpr : ∀ p ∈ ps, 0 ≤ p ∧ p < as.length)
    (hret : ∀ h' tk t a em', Keep [st, dp] s.heap h' → ProofAt h' pr dp st nm (as ++ [a]) em' → s.heap.get? a = none → IsTup h' a (List.toArray [.str rl tr, .ref ca, .ref pa, nv]) → Q (.int (as.length : Nat) t) { s with heap := h', toks := tk }) :
    wpAny (model PySem.Challenge.rw_rg0222_01.row.prog w) (lo 690 4900) (call (.ref 645) [.ref pr, .str rl tr, .ref ca, .ref pa, nv]) Q E s := by
  obtain ⟨d1, d2, d3⟩ := P.ne
  have e1 := neN d1
  have e2 := neN d2
  have e3 := neN d3
  obtain ⟨a1, a2, a3, t1, t2, t3, t4, hdp⟩ := P.dict
  obtain ⟨n, hst⟩ := P.list
  have hpi := P.inst
  refine wpAny_call ?_
  k_dflt (refine' enter (binds := [(Str.ofString "self", .ref pr), (Str.ofString "rule", .str rl tr), (Str.ofString "clause", .ref ca), (Str.ofString "premises", .ref pa), (Str.ofString "note", nv)]) [st, pr, dp] X T.nolimit hB hO ?k6 ?k7 ?k8 ?k9 ?kB ?_ ?c5 ?c2 ?c3 ?c4; (case k6 => k_is); (case k7 => k_is); (case k8 => decide); (case k9 => exact BindsTo.of_eq rfl); (case c5 => decide); (case kB => exact locs rfl); (case c2 => exact rfl); (case c3 => exact rfl); (case c4 => exact rfl))
  intro g L h₁ hg hL F hk₁ sg Xg
  have Tg := T.keeps sg
  have N := ProofAt.news hL hk₁ hg hpi hdp hst
  obtain ⟨vs, iv, hcv⟩ := hc
  obtain ⟨vp, ip, hpv⟩ := hp
  have hcg : IsTup g ca vs.toArray := by
    obtain ⟨o, ho, r⟩ := hcv
    exact ⟨o, hide1 hg ho hca, r⟩
  have hpg : IsTup g pa vp.toArray := by
    obtain ⟨o, ho, r⟩ := hpv
    exact ⟨o, hide1 hg ho hpa, r⟩
  refine wpAny_mono (E := fun _ _ => False) ?_ (fun _ _ h => h) (fun _ _ h => h.elim)
  k_fold
  k_steps
  rename Fr _ _ _ _ => F2
  rename News _ _ _ _ => N2
  refine use_lo (is_tidy_c Xg Tg (by exact F2.keep) (by exact ⟨vs, iv, F2.tup hcg⟩) hcl h0 hs fun h3 tk3 k3 => ?_) rfl (Nat.le_of_ble_eq_true rfl) (Nat.le_of_ble_eq_true rfl)
  have F3 := fr_call0 F2 k3
  have N3 := news_call0 N2 k3
  clear F2 N2
  k_steps
  refine iter_tupI rfl hpg ip (by assumption) N3 (fun I i q t h4 tk4 oI hq hqm hnI F4 N4 => ?_) (fun h5 tk5 u F5 N5 => ?_)
  · obtain ⟨q0, q1⟩ := hpr q hqm
    have hlm : (List.map Value.ref as).length = as.length := List.length_map ..
    k_steps
    exact ⟨_, _, _, rfl, F4, N4, fun y hy => if_neg hy⟩
  · have hlm : (List.map Value.ref as).length = as.length := List.length_map ..
    k_steps
    all_goals exact add_end hg (by assumption) (by assumption) (by assumption) hpi hret
end
end SAdd
section SSdec

def goodT {α : Type} (n : Nat) (lt : Nat → Nat → Bool) (P : α → Bool) : KasT α → Bool
  | .ret a => P a
  | .ask i j k => decide (i < n) && decide (j < n) && (i != j) && goodT n lt P (k (lt i j))
theorem good_wp {α : Type} {n : Nat} {lt : Nat → Nat → Bool} {P : α → Bool} {Inv : Shared → Prop} {cmp : Nat → Nat → (Bool → Shared → Prop) → Shared → Prop} {Q : α → Shared → Prop}
    (hc : ∀ i j C s, i < n → j < n → i ≠ j → Inv s → (∀ s', Inv s' → C (lt i j) s') → cmp i j C s) (hq : ∀ a s', P a = true → Inv s' → Q a s') :
    ∀ (t : KasT α) (s : Shared), goodT n lt P t = true → Inv s → t.kasWp cmp Q s
  | .ret a, s, h, hi => hq a s h hi
  | .ask i j k, s, h, hi => by
    simp only [goodT, Bool.and_eq_true, decide_eq_true_eq, bne_iff_ne] at h
    exact hc i j _ s h.1.1.1 h.1.1.2 h.1.2 hi fun s' hi' => good_wp hc hq (k (lt i j)) s' h.2 hi'
def allL : Nat → Nat → List (List Nat)
  | 0, _ => [[]]
  | k + 1, n => (List.range n).flatMap fun x => (allL k n).map (x :: ·)
theorem mem_allL {n : Nat} : ∀ (k : Nat) (l : List Nat), l.length = k → (∀ x ∈ l, x < n) → l ∈ allL k n
  | 0, l, h, _ => by rw [List.length_eq_zero_iff.mp h]; exact List.mem_singleton.mpr rfl
  | k + 1, [], h, _ => by cases h
  | k + 1, x :: l, h, hx => List.mem_flatMap.mpr ⟨x, List.mem_range.mpr (hx x (.head _)), List.mem_map.mpr ⟨l, mem_allL k l (Nat.succ.inj h) fun y hy => hx y (.tail _ hy), rfl⟩⟩
def outOk (n : Nat) (rk : List Nat) (p : Array Nat) : Bool := p.toList.isPerm (List.range n) && decide ((p.toList.map fun i => rk.getD i 0).Pairwise (· < ·))
theorem sort_dec : ∀ n ∈ [2, 3, 4], ∀ rk ∈ allL n n, rk.Nodup → goodT n (fun i j => decide (rk.getD i 0 < rk.getD j 0)) (outOk n rk) (kas_sort n) = true := by decide +kernel

theorem countP_lt {α : Type} {p q : α → Bool} (hpq : ∀ a, p a = true → q a = true) : ∀ {l : List α} {x : α}, x ∈ l → q x = true → p x = false → l.countP p < l.countP q
  | [], _, h, _, _ => nomatch h
  | y :: l, x, h, hq, hp => by
    rcases List.mem_cons.mp h with rfl | h
    · rw [List.countP_cons_of_neg (by simp [hp]), List.countP_cons_of_pos hq]
      exact Nat.lt_succ_of_le (List.countP_mono_left fun a _ => hpq a)
    · have ih := countP_lt hpq h hq hp
      rw [List.countP_cons, List.countP_cons]
      have : (if p y = true then 1 else 0) ≤ if q y = true then 1 else 0 := by
        by_cases e : p y = true
        · rw [if_pos e, if_pos (hpq y e)]; exact Nat.le_refl _
        · rw [if_neg e]; exact Nat.zero_le _
      omega
def rankOf (zs : List Int) (z : Int) : Nat := zs.countP fun y => decide (y < z)
theorem rank_lt {zs : List Int} {x y : Int} (hx : x ∈ zs) : rankOf zs x < rankOf zs y ↔ x < y := by
  constructor
  · intro h
    rcases Int.lt_or_le x y with q | q
    · exact q
    · exfalso
      have : rankOf zs y ≤ rankOf zs x := List.countP_mono_left fun a _ => by simp only [decide_eq_true_eq]; omega
      omega
  · intro h
    exact countP_lt (fun a => by simp only [decide_eq_true_eq]; omega) hx (by simpa using h) (by simp)
theorem rank_len {zs : List Int} {x : Int} (hx : x ∈ zs) : rankOf zs x < zs.length := by
  have := countP_lt (p := fun y => decide (y < x)) (q := fun _ => true) (fun _ _ => rfl) hx rfl (by simp)
  simpa [rankOf] using this
theorem getD_map_lt {α β : Type} {f : α → β} {l : List α} {i : Nat} {d : α} {e : β} (h : i < l.length) : (l.map f).getD i e = f (l.getD i d) := by simp [h]
theorem getD_mem' {α : Type} {l : List α} {i : Nat} {d : α} (h : i < l.length) : l.getD i d ∈ l := by
  rw [List.getD_eq_getElem?_getD, List.getElem?_eq_getElem h]
  exact List.getElem_mem h
theorem nodup_map_rank {zs : List Int} (h : zs.Nodup) : (zs.map (rankOf zs)).Nodup := by
  refine List.pairwise_map.mpr (List.Pairwise.imp_of_mem (fun {a b} ha hb hab e => ?_) h)
  rcases Int.lt_trichotomy a b with q | q | q
  · have := (rank_lt (y := b) ha).mpr q; omega
  · exact hab q
  · have := (rank_lt (y := a) hb).mpr q; omega
/-- what a sort of distinct keys gives -/
structure SortOut {α : Type} (zs : List Int) (vs out : List α) (d : α) (p : List Nat) : Prop where
  perm : p.Perm (List.range vs.length)
  out_ : out = p.map fun i => vs.getD i d
  ord : (p.map fun i => zs.getD i 0).Pairwise (· < ·)
theorem sort_good {zs : List Int} (h2 : 2 ≤ zs.length) (h4 : zs.length ≤ 4) (hn : zs.Nodup) :
    goodT zs.length (fun i j => decide (zs.getD i 0 < zs.getD j 0)) (fun p : Array Nat => p.toList.isPerm (List.range zs.length) && decide ((p.toList.map fun i => zs.getD i 0).Pairwise (· < ·))) (kas_sort zs.length) = true := by
  have hm : zs.length ∈ [2, 3, 4] := by simp; omega
  have key := sort_dec zs.length hm (zs.map (rankOf zs)) (mem_allL _ _ (by simp) (by simp; exact fun x hx => rank_len hx)) (nodup_map_rank hn)
  have mono : ∀ (t : KasT (Array Nat)), goodT zs.length (fun i j => decide ((zs.map (rankOf zs)).getD i 0 < (zs.map (rankOf zs)).getD j 0)) (outOk zs.length (zs.map (rankOf zs))) t = true →
      goodT zs.length (fun i j => decide (zs.getD i 0 < zs.getD j 0)) (fun p : Array Nat => p.toList.isPerm (List.range zs.length) && decide ((p.toList.map fun i => zs.getD i 0).Pairwise (· < ·))) t = true := by
    intro t
    induction t with
    | ret a =>
      intro h
      simp only [goodT, outOk, Bool.and_eq_true, decide_eq_true_eq] at h ⊢
      refine ⟨h.1, ?_⟩
      have hp := List.isPerm_iff.mp h.1
      have h2 := h.2
      rw [List.pairwise_map] at h2 ⊢
      refine List.Pairwise.imp_of_mem (fun {i j} hi hj hij => ?_) h2
      have hi' : i < zs.length := List.mem_range.mp (hp.mem_iff.mp hi)
      have hj' : j < zs.length := List.mem_range.mp (hp.mem_iff.mp hj)
      rw [getD_map_lt (d := 0) hi', getD_map_lt (d := 0) hj'] at hij
      exact (rank_lt (getD_mem' hi')).mp hij
    | ask i j k ih =>
      intro h
      simp only [goodT, Bool.and_eq_true, decide_eq_true_eq, bne_iff_ne] at h ⊢
      refine ⟨h.1, ?_⟩
      have e : decide ((zs.map (rankOf zs)).getD i 0 < (zs.map (rankOf zs)).getD j 0) = decide (zs.getD i 0 < zs.getD j 0) := by
        rw [getD_map_lt (d := 0) h.1.1.1, getD_map_lt (d := 0) h.1.1.2, decide_eq_decide]
        exact rank_lt (getD_mem' h.1.1.1)
      have h3 := h.2
      rw [e] at h3
      exact ih _ h3
  exact mono _ key
end SSdec
section STsort

/-- the keys of a sort by tuples (int, bool) -/
def TK (h : Heap) : List Value → List Int → Prop
  | [], [] => True
  | v :: vs, z :: zs => (∃ q t b, v = .ref q ∧ h.get? q = some { cls := .type "tuple", data := .seq (List.toArray [.int z t, .bool b]) }) ∧ TK h vs zs
  | _, _ => False
theorem TK.mono {h h' : Heap} (k : ∀ q xs n, h.get? q = some { cls := .type "tuple", data := .seq xs n } → h'.get? q = some { cls := .type "tuple", data := .seq xs n }) : ∀ {vs : List Value} {zs : List Int}, TK h vs zs → TK h' vs zs
  | [], [], _ => trivial
  | v :: vs, z :: zs, ⟨⟨q, t, b, e, ho⟩, r⟩ => ⟨⟨q, t, b, e, k _ _ _ ho⟩, TK.mono k r⟩
  | [], _ :: _, h => h.elim
  | _ :: _, [], h => h.elim
theorem TK.len {h : Heap} : ∀ {vs : List Value} {zs : List Int}, TK h vs zs → vs.length = zs.length
  | [], [], _ => rfl
  | v :: vs, z :: zs, ⟨_, r⟩ => congrArg (· + 1) r.len
  | [], _ :: _, h => h.elim
  | _ :: _, [], h => h.elim
theorem TK.snoc {h : Heap} {q : Addr} {z : Int} {t : Tok} {b : Bool} (ho : h.get? q = some { cls := .type "tuple", data := .seq (List.toArray [.int z t, .bool b]) }) : ∀ {vs : List Value} {zs : List Int}, TK h vs zs → TK h (vs ++ [.ref q]) (zs ++ [z])
  | [], [], _ => ⟨⟨q, t, b, rfl, ho⟩, trivial⟩
  | v :: vs, z :: zs, ⟨e, r⟩ => ⟨e, r.snoc ho⟩
  | [], _ :: _, h => h.elim
  | _ :: _, [], h => h.elim
theorem TK.at {h : Heap} : ∀ {vs : List Value} {zs : List Int} (i : Nat), TK h vs zs → i < vs.length → ∃ q t b, vs.getD i .none = .ref q ∧ h.get? q = some { cls := .type "tuple", data := .seq (List.toArray [.int (zs.getD i 0) t, .bool b]) }
  | v :: vs, z :: zs, 0, ⟨e, _⟩, _ => e
  | v :: vs, z :: zs, i + 1, ⟨_, r⟩, hi => by
    have := r.at i (by simpa using hi)
    simpa using this
  | [], [], _, _, hi => by cases hi
  | [], _ :: _, _, h, _ => h.elim
  | _ :: _, [], _, h, _ => h.elim
theorem TK.kat {h : Heap} : ∀ {vs : List Value} {zs : List Int}, TK h vs zs → ∃ fs, KatTups h vs fs ∧ IntsAre fs zs
  | [], [], _ => ⟨[], trivial, .nil⟩
  | v :: vs, z :: zs, ⟨⟨q, t, b, e, ho⟩, r⟩ => by
    obtain ⟨fs, k, i⟩ := r.kat
    subst e
    exact ⟨.int z t :: fs, KatTups.cons ho rfl rfl rfl k, .cons z t i⟩
  | [], _ :: _, h => h.elim
  | _ :: _, [], h => h.elim

theorem pw_short {n : Nat} {f : Nat → Int} (h : n < 2) : ((List.range n).map f).Pairwise (· < ·) := by
  rcases n with _ | _ | n
  · simp
  · simp
  · omega
theorem nodup_inj {α : Type} {l : List α} (h : l.Nodup) {i j : Nat} {hi : i < l.length} {hj : j < l.length} (e : l[i] = l[j]) : i = j := by
  have p := List.pairwise_iff_getElem.mp h
  rcases Nat.lt_trichotomy i j with q | q | q
  · exact absurd e (p i j hi hj q)
  · exact q
  · exact absurd e.symm (p j i hj hi q)
section
variable {prog : Program} {w : World} {A : Around} {E : Value → Shared → Prop} {s : Shared} {h₀ : Heap} {L : Addr} {m : Str → Option Value} {news : List (Addr × Obj)} {a kS : Addr} {vs : List Value} {zs : List Int} {ks : List Value} {e e1 : Nat} {P : PySem.Fin → Shared → Prop}

theorem tks_lt {i j : Nat} {C : Bool → Shared → Prop} (t : TK s.heap ks zs) (hi : i < ks.length) (hj : j < ks.length) (hne : zs.getD i 0 ≠ zs.getD j 0) (h : C (decide (zs.getD i 0 < zs.getD j 0)) s) :
    kas_ask prog w A (tuples' true) ks i j C s := by
  unfold kas_ask
  obtain ⟨q, t1, b1, e1, o1⟩ := t.at i hi
  obtain ⟨r, t2, b2, e2, o2⟩ := t.at j hj
  rw [e1, e2]
  refine kat_lt o1 rfl o2 rfl (kat_cons (wpAny_eqBool_int ?_))
  have e : (zs.getD i 0 == zs.getD j 0) = false := by simpa using hne
  rw [e]
  exact kat_no (oneLt_int h)

theorem tks_end (F : Fr h₀ L s.heap m) (N : News h₀ L s.heap ((kS, seqObj "list" (List.toArray ks) e) :: (a, seqObj "list" #[] e1) :: news)) (hka : kS ≠ a) (hnk : ∀ p ∈ news, p.1 ≠ kS) (hna : ∀ p ∈ news, p.1 ≠ a)
    (hk : TK s.heap ks zs) (hlen : zs.length = vs.length) (h4 : vs.length ≤ 4) (hn : zs.Nodup)
    (h : ∀ h' tk out c p, Fr h₀ L h' m → News h₀ L h' ((a, listOf (List.toArray out) c) :: news) → SortOut zs vs out .none p → P (.done (.ret .none)) { s with heap := h', toks := tk }) :
    wpAny (model prog w) A (ksk_end a false vs.toArray e1 (.ref kS) (List.toArray ks)) P E s := by
  have hl : ks.length = vs.length := hk.len.trans hlen
  have fin : ∀ (out : List Value) (p : List Nat), SortOut zs vs out .none p → KatFin h₀ L m kS a ks e e1 out (fun s3 => P (.done (.ret .none)) s3) s := by
    intro out p ho
    refine KatFin.intro F N (.head ?_) fun h' c F' N' => ?_
    · intro q hq
      rcases List.mem_cons.mp hq with rfl | hq
      · exact hka.symm
      · exact hnk q hq
    · refine KasFin.intro F' N' (.tail hka (.head hna)) fun h2 c2 F2 N2 => ?_
      exact h h2 s.toks out c2 p F2 (fun q hq => N2 q (.tail _ hq)) ho
  by_cases h2 : vs.length < 2
  · unfold ksk_end
    try dsimp only
    have hn2 : vs.toArray.size < 2 := by rw [List.size_toArray]; omega
    simp only [Bool.false_eq_true, if_false]
    rw [if_pos hn2, if_pos hn2]
    refine wpAny_bind (wpAny_pure ?_)
    rw [StateT.run_pure]
    refine wpAny_bind (wpAny_pure ?_)
    try dsimp only
    have ho : SortOut zs vs vs .none (List.range vs.length) := by
      refine ⟨List.Perm.refl _, ?_, ?_⟩
      · apply List.ext_getElem (by simp)
        intro i hi hi'
        simp [hi]
      · exact pw_short h2
    refine kat_tail (b := false) (ks := ks) (out := vs) (e := e) ?_ (by omega) (by omega) rfl (fin vs _ ho)
    show ((List.toArray ks).zip vs.toArray).map (·.2) = vs.toArray
    apply Array.toList_inj.mp
    rw [Array.toList_map, ksk_zip]
    exact List.map_snd_zip (by simp; omega)
  · have h2' : 2 ≤ vs.length := by omega
    refine kat_end (b := false) (h₀ := h₀) (L := L) (m := m) (e := e) hl h2' (by omega) ?_
    obtain ⟨fs, kt, hi⟩ := hk.kat
    refine kat_kind (T := .type "int") kt (by rw [hi.length]; omega) (fun v hv => ?_) (by decide) ?_
    · obtain ⟨x, t, rfl⟩ := hi.all _ hv
      exact Looks.of_pure rfl
    · have hgood := sort_good (zs := zs) (by omega) (by omega) hn
      rw [hlen] at hgood
      refine good_wp (n := vs.length) (lt := fun i j => decide (zs.getD i 0 < zs.getD j 0)) (Inv := fun s' => s' = s) (fun i j C s' hi hj hij hs hC => ?_) (fun p s' hp hs => ?_) _ s hgood rfl
      · subst hs
        show kas_ask prog w A (tuples' true) ks i j C _
        refine tks_lt hk (by omega) (by omega) (fun q => hij ?_) (hC _ rfl)
        have hi' : i < zs.length := by omega
        have hj' : j < zs.length := by omega
        rw [List.getD_eq_getElem?_getD, List.getD_eq_getElem?_getD, List.getElem?_eq_getElem hi', List.getElem?_eq_getElem hj'] at q
        exact nodup_inj hn q
      · subst hs
        simp only [Bool.and_eq_true, decide_eq_true_eq] at hp
        exact fin _ p.toList ⟨List.isPerm_iff.mp hp.1, rfl, hp.2⟩
end
end STsort
section STsort2

section
variable {prog : Program} {w : World} {A : Around} {E : Value → Shared → Prop} {s : Shared} {h₀ : Heap} {L : Addr} {m : Str → Option Value} {news : List (Addr × Obj)} {a kS l : Addr} {vs : List Value} {zs : List Int} {ks : List Value} {e e1 : Nat} {P : PySem.Fin → Shared → Prop} {Q : Value → Shared → Prop}

/-- what a key function of tuples does at one item -/
def TKey (prog : Program) (w : World) (A : Around) (h₀ : Heap) (s : Shared) (f v : Value) (z : Int) : Prop :=
  ∀ (h : Heap) (tk : Nat), h₀.StaysIn h → wpAny (model prog w) A (call f [v]) (fun kv s' => ∃ h' tk' q t b, kv = .ref q ∧ s' = { s with heap := h', toks := tk' } ∧ (∀ b o, h.get? b = some o → h'.get? b = some o) ∧
    h'.get? q = some { cls := .type "tuple", data := .seq (List.toArray [.int z t, .bool b]) }) (fun _ _ => False) { s with heap := h, toks := tk }

theorem tks_rest {f : Value} (F : Fr h₀ L s.heap m) (N : News h₀ L s.heap ((kS, seqObj "list" #[] 0) :: (a, seqObj "list" #[] e1) :: news)) (hka : kS ≠ a) (hnk : ∀ p ∈ news, p.1 ≠ kS) (hna : ∀ p ∈ news, p.1 ≠ a)
    (hlen : zs.length = vs.length) (h4 : vs.length ≤ 4) (hn : zs.Nodup)
    (turn : ∀ (i : Nat) (v : Value) (z : Int), vs[i]? = some v → zs[i]? = some z → TKey prog w A h₀ s f v z)
    (h : ∀ h' tk out c p, Fr h₀ L h' m → News h₀ L h' ((a, listOf (List.toArray out) c) :: news) → SortOut zs vs out .none p → P (.done (.ret .none)) { s with heap := h', toks := tk }) :
    wpAny (model prog w) A (ksk_rest a f false vs.toArray e1 (.ref kS)) P E s := by
  unfold ksk_rest
  refine wpAny_bind (wpAny_rule ?_)
  rw [List.forIn_toArray]
  refine wpAny_bind (ksk_fold (fun i s' => ∃ h' tk ks e, s' = { s with heap := h', toks := tk } ∧ Fr h₀ L h' m ∧ News h₀ L h' ((kS, seqObj "list" (List.toArray ks) e) :: (a, seqObj "list" #[] e1) :: news) ∧ TK h' ks (zs.take i)) vs 0 s
    ⟨s.heap, s.toks, [], 0, rfl, F, N, by rw [List.take_zero]; trivial⟩ ?step ?done)
  case step =>
    rintro j x s' hx ⟨h', tk, ks, e, rfl, F', N', hk⟩
    simp only [Nat.zero_add] at hk ⊢
    have hj : j < vs.length := (List.getElem?_eq_some_iff.mp hx).1
    obtain ⟨z, hz⟩ : ∃ z, zs[j]? = some z := ⟨_, List.getElem?_eq_getElem (by omega)⟩
    have hsz : ks.length ≤ 4 := by
      have := hk.len
      rw [List.length_take] at this
      omega
    refine wpAny_bind (wpAny_attempt (wpAny_mono (turn j x z hx hz h' tk F'.keep) (fun v s'' he => ?_) fun _ _ hF => hF.elim))
    obtain ⟨g, tk2, q, t, b, rfl, rfl, hkeep, hq⟩ := he
    try dsimp only
    have F2 := F'.kept hkeep
    have N2 := N'.grown hkeep
    have nk := N2 _ (.head _)
    have s1 := Heap.SameBut.update g kS (Obj.mapSeq (·.push (.ref q)))
    have ea : (List.toArray ks).push (.ref q) = List.toArray (ks ++ [.ref q]) := by simp
    obtain ⟨c2, hc2⟩ : ∃ c2, (g.update kS (Obj.mapSeq (·.push (.ref q)))).get? kS = some (seqObj "list" (List.toArray (ks ++ [.ref q])) c2) := ⟨_, by rw [← ea]; exact get?_update_seq nk.1 (·.push (.ref q))⟩
    have ek : zs.take (j + 1) = zs.take j ++ [z] := by rw [List.take_add_one, hz]; simp
    have other : ∀ q' xs n, g.get? q' = some { cls := .type "tuple", data := .seq xs n } → (g.update kS (Obj.mapSeq (·.push (.ref q)))).get? q' = some { cls := .type "tuple", data := .seq xs n } := fun q' xs n e => by
      refine (s1.2 q' fun w => ?_).trans e
      rw [w, nk.1] at e
      exact absurd (congrArg Obj.cls (Option.some.inj e)) (by simp [seqObj])
    refine wpAny_bind (listUpdate_at nk.1 rfl ?_ (by rw [List.size_toArray, sizeLine_eq]; omega) (Nat.le_trans (Nat.le_of_eq (Array.size_push ..)) (by rw [List.size_toArray, sizeLine_eq]; omega)))
    refine wpAny_pure ⟨rfl, _, _, ks ++ [.ref q], c2, rfl, kas_fr F2 s1 nk.2.1 nk.2.2, fun p hp => ?_, ?_⟩
    · rcases List.mem_cons.mp hp with rfl | hp
      · exact ⟨hc2, nk.2⟩
      · refine kas_news (fun q hq => N2 q (.tail _ hq)) s1 (fun q hq => ?_) p hp
        rcases List.mem_cons.mp hq with rfl | hq
        · exact hka.symm
        · exact hnk q hq
    · rw [ek]
      exact TK.snoc (other _ _ _ hq) ((hk.mono fun q xs n e => hkeep _ _ e).mono other)
  case done =>
    rintro s' ⟨h', tk, ks, e, rfl, F', N', hk⟩
    have e3 : zs.take (0 + vs.length) = zs := List.take_of_length_le (by omega)
    rw [e3] at hk
    have nk := N' _ (.head _)
    try dsimp only
    refine wpAny_bind (listItems_at nk.1 rfl ?_)
    exact tks_end F' N' hka hnk hna hk hlen h4 hn fun h3 tk3 out c p F3 N3 k3 => h h3 tk3 out c p F3 N3 k3

theorem tks_sort {f : Value} {n : Nat} (F : Fr h₀ L s.heap m) (N : News h₀ L s.heap news) (ho : s.heap.get? a = some (seqObj "list" vs.toArray n)) (haL : a ≠ L) (ha0 : h₀.get? a = none) (hna : ∀ p ∈ news, p.1 ≠ a)
    (hlen : zs.length = vs.length) (h4 : vs.length ≤ 4) (hn : zs.Nodup) (turn : ∀ (i : Nat) (v : Value) (z : Int), vs[i]? = some v → zs[i]? = some z → TKey prog w A h₀ s f v z)
    (h : ∀ h' tk out c p, Fr h₀ L h' m → News h₀ L h' ((a, listOf (List.toArray out) c) :: news) → SortOut zs vs out .none p → P (.done (.ret .none)) { s with heap := h', toks := tk }) :
    wpAny (model prog w) A (ksk_tree a f false) P E s := by
  have ha : a < s.heap.objs.size := Heap.lt_size ho
  have s1 := Heap.SameBut.update s.heap a (Obj.mapSeq fun _ => (#[] : Array Value))
  obtain ⟨e1, ho1⟩ : ∃ e1, (s.heap.update a (Obj.mapSeq fun _ => (#[] : Array Value))).get? a = some (seqObj "list" #[] e1) := ⟨_, get?_update_seq ho fun _ => #[]⟩
  have F1 := kas_fr F s1 haL ha0
  have N1 := kas_news N s1 hna
  have hkS : ((s.heap.update a (Obj.mapSeq fun _ => (#[] : Array Value))).push (seqObj "tuple" vs.toArray 0)).objs.size = s.heap.objs.size + 1 := by rw [size_push', Heap.size_update]
  have hLk : L < ((s.heap.update a (Obj.mapSeq fun _ => (#[] : Array Value))).push (seqObj "tuple" vs.toArray 0)).objs.size := (F1.push _).ns.lt
  unfold ksk_tree
  refine wpAny_bind (listItems_at ho rfl ?_)
  refine wpAny_bind (listUpdate_at ho rfl ?_ (by rw [List.size_toArray, sizeLine_eq]; omega) (Nat.zero_le _))
  refine wpAny_bind (seqEpoch_at ho1 rfl ?_)
  refine wpAny_bind (wpAny_newTuple ?_ (by show vs.length ≤ _; rw [sizeLine_eq]; omega))
  refine wpAny_bind (wpAny_newList ?_ (Nat.zero_le _))
  refine wpAny_holding ?_
  refine tks_rest (s := { s with heap := ((s.heap.update a (Obj.mapSeq fun _ => (#[] : Array Value))).push (seqObj "tuple" vs.toArray 0)).push (seqObj "list" #[] 0) }) (kS := ((s.heap.update a (Obj.mapSeq fun _ => (#[] : Array Value))).push (seqObj "tuple" vs.toArray 0)).objs.size)
    ((F1.push _).push _) (fun p hp => ?_) (by rw [hkS]; exact Nat.ne_of_gt (Nat.lt_succ_of_lt ha)) (fun p hp => by rw [hkS]; exact Nat.ne_of_lt (Nat.lt_succ_of_lt (Heap.lt_size (N p hp).1))) hna hlen h4 hn turn h
  rcases List.mem_cons.mp hp with rfl | hp
  · exact ⟨Heap.get?_push_size _ rfl, Nat.ne_of_gt hLk, Heap.get?_none_of_le (Nat.le_trans F.above (Nat.le_of_lt hLk))⟩
  · rcases List.mem_cons.mp hp with rfl | hp
    · exact ⟨Heap.get?_push_of_some _ (Heap.get?_push_of_some _ ho1), haL, ha0⟩
    · exact ⟨Heap.get?_push_of_some _ (Heap.get?_push_of_some _ (N1 p hp).1), (N1 p hp).2⟩

/-- sorted(..) over any source whose collecting is known -/
theorem sorted_src {f : Value} {b : Bool} {kw : List (Str × Value)} (C : List Value → Prop) (hC : ∀ acc, C acc → acc.length < 64)
    (hc : ∀ R : List Value → Shared → Prop, (∀ h' tk acc, (∀ b o, s.heap.get? b = some o → h'.get? b = some o) → C acc → R acc { s with heap := h', toks := tk }) → wpAny (model prog w) A.in1 (collect (.ref l)) R E s)
    (ha1 : argsOk "sorted" ⟨[.ref l], kw⟩) (ha2 : ∀ x, argsOk "list.sort" ⟨[.ref x], kw⟩) (ht : ∀ x, Builtin.«list.sort» ⟨[.ref x], kw⟩ = ksk_tree x f b)
    (h : ∀ (acc : List Value) (D : Addr) h' tk, C acc → (∀ b o, s.heap.get? b = some o → h'.get? b = some o) → h'.get? D = some (seqObj "list" acc.toArray 0) → (∀ b o, s.heap.get? b = some o → b < D) →
      wpAny (model prog w) A.in1.in1 (ksk_tree D f b) (fun fin s' => fin = .done (.ret .none) ∧ Q (.ref D) s') E { s with heap := h', toks := tk }) :
    wpAny (model prog w) A (call (.builtin "sorted") [.ref l] kw) Q E s := by
  refine call_function_entry_kw kind_sorted plain_sorted entry_sorted ha1 ?_
  unfold Builtin.«sorted»
  refine wpAny_bind (m := checkCount "sorted" 1 1 _) (wpAny_pure ?_)
  refine wpAny_bind (hc _ fun h' tk acc hk hacc => ?_)
  have hl := hC acc hacc
  refine wpAny_bind (wpAny_newList ?_ (by rw [sizeLine_eq]; omega))
  have hoD : (h'.push (seqObj "list" acc.toArray 0)).get? h'.objs.size = some (seqObj "list" acc.toArray 0) := Heap.get?_push_size _ rfl
  show wpAny _ _ _ _ _ { s with heap := h'.push (seqObj "list" acc.toArray 0), toks := tk }
  refine wpAny_bind (wpAny_holding (wpAny_call_entry_kw slot_list_sort ⟨_, hoD, rfl⟩ entry_list_sort ?body (ha2 _)))
  case body =>
    have ht' := ht h'.objs.size
    show wpAny (model prog w) A.in1.in1 (Builtin.«list.sort» ⟨[.ref h'.objs.size], kw⟩) _ _ _
    rw [ht']
    refine wpAny_mono (h acc h'.objs.size _ tk hacc (fun b o e => Heap.get?_push_of_some _ (hk b o e)) hoD fun b o e => Heap.lt_size (hk b o e)) (fun fin s' x => ?_) fun _ _ e => e
    obtain ⟨rfl, hq⟩ := x
    exact ⟨_, rfl, wpAny_pure ⟨_, rfl, hq⟩⟩
end
end STsort2
theorem word7 : True := by
  k_with_none
  k_with "call builtin:len" => (k_here; (with_reducible show wpAny _ _ (call (Value.builtin "len") [Value.ref _]) _ _ _); (with_unfolding_all refine' len_tupI ?k1 ?k2 ?k3 ?_; (case k1 => first | assumption | exact Fr.tup (by assumption) (by assumption)); (case k2 => l_ints); (case k3 => l_fit); k_whole))
  k_with "call builtin:len" => (k_here; (with_reducible show wpAny _ _ (call (Value.builtin "len") [Value.ref _]) _ _ _); (with_unfolding_all refine' len_lst ?k1 ?k3 ?_; (case k1 => exact News.isList (by k_asm) (by k_mem)); (case k3 => (simp only [List.length_map]; omega)); k_whole))
  k_with "subscriptTail" => (k_here; (with_reducible show wpAny _ _ (subscriptTail _ _ (Value.ref _) (Value.int _ _)) _ _ _); (with_unfolding_all refine' item_tuple_ints ?k1 ?k2 ?k3 ?k4 ?k5 ?_ ?k6 ?k7; (case k1 => first | assumption | exact Fr.tup (by assumption) (by assumption)); (case k2 => l_ints); (case k3 => omega); (case k4 => omega); (case k5 => omega); (case k6 => with_unfolding_all rfl); (case k7 => (intro _; with_unfolding_all rfl)); k_whole); intro _)
  k_with "subscriptTail" => (k_here; (with_reducible show wpAny _ _ (subscriptTail _ _ (Value.ref _) (Value.int _ _)) _ _ _); (with_unfolding_all refine' item_listR ?k1 ?k2 ?k3 ?k4 ?_ ?k6; (case k4 => assumption); (case k1 => exact News.isList (by k_asm) (by k_mem)); (case k2 => omega); (case k3 => omega); (case k6 => with_unfolding_all rfl); k_whole))
  k_with "exec For Name Name cons nil" => (k_here; (rename Fr _ _ _ _ => lF'); (with_unfolding_all refine' for_walksF lF' ?k1 ?k2 ?_; (case k1 => exact rfl); (case k2 => exact rfl); k_whole))
  k_with "exec For Name Call cons nil" => (k_here; (rename Fr _ _ _ _ => lF'); (with_unfolding_all refine' for_walksF lF' ?k1 ?k2 ?_; (case k1 => exact rfl); (case k2 => exact rfl); k_whole))
  trivial
section STidy
theorem word8 : True := by
  k_with "compareOp In int ref" => (k_here; k_dflt (refine kda_in (knd := PySem.intKind _ _) (by k_asm) (by k_mem) (by k_asm) (by k_asm) (intKind_is _ _ _ _) _ rfl ?_))
  k_with "setItem ref int" => (k_here; k_dflt (refine' kda_set (knd := PySem.intKind _ _) ?F ?N ?U ?d (intKind_is _ _ _ _) ?z ?_; (case F => k_asm); (case N => k_asm); (case U => k_updF); (case d => k_asm); (case z => assumption)); intro h' o' F' N' hd'; (try dsimp only at N'))
  trivial

/-- the dict of the literals seen -/
structure KV (xs : List Int) (i : Nat) (kvs : List (Int × Value)) : Prop where
  keys : ∀ k, k ∈ kvs.map (·.1) ↔ k ∈ xs.take i
  nodup : (kvs.map (·.1)).Nodup
  no : ∀ (j : Nat) x, j < i → xs[j]? = some x → -x ∉ xs.take j
  len : kvs.length ≤ i

theorem ints_of_get : ∀ {vs : List Value} {xs : List Int}, vs.length = xs.length → (∀ (j : Nat) (v : Value), vs[j]? = some v → ∃ x t, xs[j]? = some x ∧ v = .int x t) → IntsAre vs xs
  | [], [], _, _ => .nil
  | v :: vs, x :: xs, hl, h => by
    obtain ⟨y, t, e, rfl⟩ := h 0 v rfl
    cases e
    exact .cons x t (ints_of_get (by simpa using hl) fun j v hv => by simpa using h (j + 1) v (by simpa using hv))
  | [], _ :: _, hl, _ => by cases hl
  | _ :: _, [], hl, _ => by cases hl
theorem nodup_len {α : Type} [DecidableEq α] : ∀ (l L : List α), l.Nodup → (∀ x ∈ l, x ∈ L) → l.length ≤ L.length
  | [], L, _, _ => Nat.zero_le _
  | x :: l, L, hn, h => by
    have hx := h x (.head _)
    have hn' := List.nodup_cons.mp hn
    have := nodup_len l (L.erase x) hn'.2 fun y hy => (List.mem_erase_of_ne (fun e : y = x => hn'.1 (e ▸ hy))).mpr (h y (.tail _ hy))
    rw [List.length_erase_of_mem hx] at this
    have : 0 < L.length := List.length_pos_of_mem hx
    simp; omega
theorem valueAt_iff (kvs : List (Int × Value)) (k : Int) : (valueAt kvs k).isSome = true ↔ k ∈ kvs.map (·.1) := by
  rw [valueAt_isSome_eq_any, List.any_eq_true, List.mem_map]
  constructor
  · rintro ⟨p, hp, e⟩
    exact ⟨p, hp, by simpa using e⟩
  · rintro ⟨p, hp, e⟩
    exact ⟨p, hp, by simpa using e⟩
theorem stored_keys (kvs : List (Int × Value)) (k : Int) (v : Value) : (stored kvs k v).map (·.1) = if k ∈ kvs.map (·.1) then kvs.map (·.1) else kvs.map (·.1) ++ [k] := by
  by_cases h : k ∈ kvs.map (·.1)
  · rw [if_pos h]
    unfold stored
    rw [if_pos (by rw [← valueAt_isSome_eq_any]; exact (valueAt_iff kvs k).mpr h), List.map_map]
    refine List.map_congr_left fun p _ => ?_
    by_cases e : p.1 = k
    · simp [e]
    · simp [e]
  · rw [if_neg h]
    unfold stored
    rw [if_neg (by rw [← valueAt_isSome_eq_any, valueAt_iff]; exact h), List.map_append]
    rfl
theorem KV.step {xs : List Int} {i : Nat} {n : Int} {kvs : List (Int × Value)} (k : KV xs i kvs) (hn : xs[i]? = some n) (h : (valueAt kvs (-n)).isSome = false) (v : Value) : KV xs (i + 1) (stored kvs n v) := by
  have et : xs.take (i + 1) = xs.take i ++ [n] := by rw [List.take_add_one, hn]; rfl
  have hk := k.keys
  have hno : -n ∉ xs.take i := fun q => by
    have := (valueAt_iff kvs (-n)).mpr ((hk _).mpr q)
    rw [h] at this; cases this
  refine ⟨fun y => ?_, ?_, fun j x hj hx => ?_, Nat.le_trans (stored_length_le _ _ _) (Nat.succ_le_succ k.len)⟩
  · rw [stored_keys, et, List.mem_append, List.mem_singleton, ← hk]
    split
    · rename_i q
      exact ⟨.inl, fun z => z.elim id fun e => e ▸ q⟩
    · rw [List.mem_append, List.mem_singleton]
  · rw [stored_keys]
    split
    · exact k.nodup
    · rename_i q
      exact List.nodup_append.mpr ⟨k.nodup, by simp, fun a ha b hb e => by rw [List.mem_singleton.mp hb] at e; exact q (e ▸ ha)⟩
  · rcases Nat.lt_succ_iff_lt_or_eq.mp hj with hj | rfl
    · exact k.no j x hj hx
    · rw [hn] at hx; cases hx; exact hno
theorem KV.yes {xs : List Int} {i : Nat} {n : Int} {kvs : List (Int × Value)} (k : KV xs i kvs) (hn : xs[i]? = some n) (h : (valueAt kvs (-n)).isSome = true) : ∃ x ∈ xs, -x ∈ xs :=
  ⟨n, List.mem_of_getElem? hn, List.mem_of_mem_take ((k.keys _).mp ((valueAt_iff _ _).mp h))⟩
theorem KV.clean {xs : List Int} {kvs : List (Int × Value)} (k : KV xs xs.length kvs) (h0 : ∀ x ∈ xs, x ≠ 0) : ∀ x ∈ xs, -x ∉ xs := by
  intro x hx hy
  obtain ⟨i, hi, ei⟩ := List.mem_iff_getElem.mp hx
  obtain ⟨j, hj, ej⟩ := List.mem_iff_getElem.mp hy
  have key : ∀ (i j : Nat) (hi : i < xs.length) (hj : j < xs.length), i < j → xs[j] ≠ -xs[i] := by
    intro i j hi hj hij e
    refine k.no j xs[j] hj (List.getElem?_eq_getElem hj) ?_
    rw [e, Int.neg_neg]
    exact List.mem_take_iff_getElem.mpr ⟨i, by omega, rfl⟩
  rcases Nat.lt_trichotomy i j with q | q | q
  · exact key i j hi hj q (by rw [ei, ej])
  · subst q; have := h0 x hx; omega
  · exact key j i hj hi q (by rw [ei, ej, Int.neg_neg])
theorem iab_inj {x y : Int} (h : iab x = iab y) : x = y ∨ x = -y := by unfold iab at h; split at h <;> split at h <;> omega
theorem KV.abs {xs : List Int} {kvs : List (Int × Value)} (k : KV xs xs.length kvs) (h0 : ∀ x ∈ xs, x ≠ 0) : (kvs.map fun p => iab p.1).Nodup := by
  have c := k.clean h0
  have hk := k.keys
  rw [List.take_length] at hk
  have hn := k.nodup
  unfold List.Nodup at hn ⊢
  rw [List.pairwise_map] at hn ⊢
  refine List.Pairwise.imp_of_mem (fun {a b} ha hb hab e => ?_) hn
  have ma := (hk a.1).mp (List.mem_map.mpr ⟨a, ha, rfl⟩)
  have mb := (hk b.1).mp (List.mem_map.mpr ⟨b, hb, rfl⟩)
  rcases iab_inj e with q | q
  · exact hab q
  · exact c _ mb (q ▸ ma)
theorem KV.len4 {xs : List Int} {kvs : List (Int × Value)} {v : Int} (k : KV xs xs.length kvs) (h0 : ∀ x ∈ xs, x ≠ 0) (hv : 1 ≤ v ∧ v ≤ 5) (h : ∀ x ∈ xs, 1 ≤ iab x ∧ iab x ≤ 5 ∧ iab x ≠ v) : kvs.length ≤ 4 := by
  have hk := k.keys
  rw [List.take_length] at hk
  have := nodup_len (kvs.map fun p => iab p.1) ([1, 2, 3, 4, 5].erase v) (k.abs h0) fun z hz => by
    obtain ⟨p, hp, rfl⟩ := List.mem_map.mp hz
    have q := h p.1 ((hk p.1).mp (List.mem_map.mpr ⟨p, hp, rfl⟩))
    refine (List.mem_erase_of_ne q.2.2).mpr ?_
    simp; omega
  rw [List.length_map, List.length_erase_of_mem (by simp; omega)] at this
  exact this
/-- what the sort of the keys comes to -/
theorem kv_sorted {xs : List Int} {kvs : List (Int × Value)} {acc out : List Value} {p : List Nat} (k : KV xs xs.length kvs) (ia : IntsAre acc (kvs.map (·.1))) (so : SortOut (kvs.map fun p => iab p.1) acc out .none p) :
    ∃ ys, IntsAre out ys ∧ (∀ y, y ∈ ys ↔ y ∈ xs) ∧ (ys.map iab).Pairwise (· < ·) := by
  have hk := k.keys
  rw [List.take_length] at hk
  have hl := ia.length
  have hl2 : acc.length = kvs.length := by rw [hl, List.length_map]
  have hp : ∀ i ∈ p, i < kvs.length := fun i hi => hl2 ▸ List.mem_range.mp (so.perm.mem_iff.mp hi)
  refine ⟨p.map fun i => (kvs.map (·.1)).getD i 0, ?_, fun y => ?_, ?_⟩
  · rw [so.out_]
    refine ints_of_get (by simp) fun j v hv => ?_
    rw [List.getElem?_map] at hv
    cases q : p[j]? with
    | none => rw [q] at hv; cases hv
    | some i =>
      rw [q] at hv
      have hi := hp i (List.mem_of_getElem? q)
      have hi' : i < (kvs.map (·.1)).length := by rw [List.length_map]; exact hi
      obtain ⟨t, ht⟩ := ia.get i _ (List.getElem?_eq_getElem hi')
      refine ⟨(kvs.map (·.1)).getD i 0, t, by rw [List.getElem?_map, q]; rfl, ?_⟩
      have e : (kvs.map (·.1)).getD i 0 = (kvs.map (·.1))[i] := by rw [List.getD_eq_getElem?_getD, List.getElem?_eq_getElem hi']; rfl
      rw [e]
      have e2 : acc.getD i Value.none = .int (kvs.map (·.1))[i] t := by rw [List.getD_eq_getElem?_getD, ht]; rfl
      rw [← e2]
      exact (Option.some.inj hv).symm
  · rw [← hk y, List.mem_map]
    constructor
    · rintro ⟨i, hi, rfl⟩
      exact getD_mem' (by rw [List.length_map]; exact hp i hi)
    · intro hy
      obtain ⟨i, hi, e⟩ := List.mem_iff_getElem.mp hy
      rw [List.length_map] at hi
      refine ⟨i, so.perm.mem_iff.mpr (List.mem_range.mpr (by omega)), ?_⟩
      rw [List.getD_eq_getElem?_getD, List.getElem?_eq_getElem (by rw [List.length_map]; exact hi)]
      exact e
  · have o := so.ord
    rw [List.pairwise_map] at o
    rw [List.map_map, List.pairwise_map]
    refine List.Pairwise.imp_of_mem (fun {i j} hi hj hij => ?_) o
    have hi' := hp i hi
    have hj' := hp j hj
    rw [getD_map_lt (d := ((0 : Int), Value.none)) hi', getD_map_lt (d := ((0 : Int), Value.none)) hj'] at hij
    show iab ((kvs.map (·.1)).getD i 0) < iab ((kvs.map (·.1)).getD j 0)
    rw [getD_map_lt (d := ((0 : Int), Value.none)) hi', getD_map_lt (d := ((0 : Int), Value.none)) hj']
    exact hij

section
variable {w : World} {mean : ExcName → Option Value} {mg mb : Str → Option Value} {B : Heap} {s : Shared} {Q E : Value → Shared → Prop}
theorem tidy_c (X : (Mine.hd.heap_39 w.params).In B) (T : Tp mean mg mb B) (hB : B.StaysIn s.heap) {a : Addr} {vs : List Value} {xs : List Int} (ha : s.heap.IsList a vs.toArray) (iv : IntsAre vs xs) (hlen : xs.length < 100)
    (h0 : ∀ x ∈ xs, x ≠ 0) {var : Int} (hv : 1 ≤ var ∧ var ≤ 5) (hxs : ∀ x ∈ xs, 1 ≤ iab x ∧ iab x ≤ 5 ∧ iab x ≠ var)
    (hretN : (∃ x ∈ xs, -x ∈ xs) → ∀ h' tk, Keep [] s.heap h' → Q .none { s with heap := h', toks := tk })
    (hretS : (∀ x ∈ xs, -x ∉ xs) → ∀ h' tk D ys, Keep [] s.heap h' → TupInts h' D ys → s.heap.get? D = none → (∀ y, y ∈ ys ↔ y ∈ xs) → (ys.map iab).Pairwise (· < ·) → Q (.ref D) { s with heap := h', toks := tk }) :
    wpAny (model PySem.Challenge.rw_rg0222_01.row.prog w) (lo 690 4900) (call (.ref 570) [.ref a]) Q E s := by
  refine wpAny_call ?_
  k_dflt (refine' enter (binds := [(Str.ofString "literals", .ref a)]) [] X T.nolimit hB (by simp) ?k6 ?k7 ?k8 ?k9 ?kB ?_ ?c5 ?c2 ?c3 ?c4; (case k6 => k_is); (case k7 => k_is); (case k8 => decide); (case k9 => exact BindsTo.of_eq rfl); (case c5 => decide); (case kB => exact locs rfl); (case c2 => exact rfl); (case c3 => exact rfl); (case c4 => exact rfl))
  intro g L h₁ hg hL F hk₁ sg Xg
  have Tg := T.keeps sg
  have N : News g L h₁ [] := News.nil
  have ht' : g.IsList a vs.toArray := by
    obtain ⟨o, ho, r⟩ := ha
    exact ⟨o, hide1 hg ho (by simp), r⟩
  refine wpAny_mono (E := fun _ _ => False) ?_ (fun _ _ h => h) (fun _ _ h => h.elim)
  k_fold
  k_steps
  rename Fr _ _ _ _ => F2
  rename News _ _ _ _ => N2
  rename Obj.IsDictOf (PySem.intKind _ _) _ _ => hi
  rename (_ == sysModules) = false => lo
  rename FlatPairs PyData.int _ _ => f1
  rename FlatPairs PyData.str _ _ => f2
  rename Obj.IsDictOf (PySem.strKind _ _) _ _ => hs
  clear f1 f2 hs
  refine iter_lstJ (fun i news₁ => ∃ o kvs, news₁ = [(_, o)] ∧ o.IsDictOf (intKind _ w) kvs ∧ KV xs i kvs) rfl ht' iv F2 N2 ⟨_, [], rfl, hi, ⟨by simp, by simp, by simp, by simp⟩⟩ ?_ ?_
  · rintro I i n t _ h tk oI hn ⟨o, kvs, rfl, hd, kv⟩ hI F3 N3
    have hsz : kvs.length ≤ sizeLine := by
      have := kv.len
      have := (List.getElem?_eq_some_iff.mp hn).1
      rw [sizeLine_eq]; omega
    have eI := hI _ (List.Mem.head _)
    dsimp only at eI
    replace eI := neN eI
    clear F2 N2 hi
    k_steps
    · exact hretN (kv.yes hn (by assumption)) _ _ (Keep.of_base hg F3.keep)
    · refine ⟨_, _, _, _, rfl, (by assumption), (by assumption), ?_, fun y hy => if_neg hy, _, _, rfl, (by assumption), kv.step hn (by assumption) _⟩
      intro p hp
      rw [List.mem_singleton.mp hp]
      exact eI
  · rintro h tk u _ F3 N3 ⟨o, kvs, rfl, hd, kv⟩
    clear F2 N2 hi
    k_steps
    (with_unfolding_all show wpAny _ _ (call (Value.builtin "sorted") [Value.ref _] [(Str.ofString "key", Value.ref 563)]) _ _ _)
    have hc4 := kv.len4 h0 hv hxs
    have hnd := kv.abs h0
    have hcl := kv.clean h0
    obtain ⟨ep, hat⟩ := (show h.DictOf (intKind PySem.Challenge.rw_rg0222_01.row.prog w) _ kvs from Heap.dictOf_iff.mpr ⟨o, (N3 _ (List.Mem.head _)).1, hd⟩).dictAt
    have src := kdl_dict (prog := PySem.Challenge.rw_rg0222_01.row.prog) (w := w) (knd := intKind _ w) (kvs := kvs) (ep := ep) lo
    refine sorted_src (b := false) (f := .ref 563) (fun acc => IntsAre acc (kvs.map (·.1))) (fun acc h => by rw [h.length, List.length_map]; omega)
      (fun R hR => kdu_collect src rfl hat (by rw [sizeLine_eq]; omega) fun h' tk acc hk it => hR h' tk acc.toList hk ?_) (ksk_s1 _ _) (fun _ => ksk_l1 _ _) (fun _ => ksk_t1 _ _) ?_
    · refine ints_of_get (by rw [Array.length_toList, List.length_map]; exact it.1) fun j v hv => ?_
      obtain ⟨k, x, e, ek⟩ := it.2 j v (by rw [← Array.getElem?_toList]; exact hv)
      obtain ⟨t, rfl⟩ := Value.isInt_shape ek
      exact ⟨k, t, by rw [List.getElem?_map, e]; rfl, rfl⟩
    · intro acc D h' tk ia hk hD hlt
      have la := ia.length
      rw [List.length_map] at la
      obtain ⟨oL, _, _, eL, _⟩ := F3.ns
      refine tks_sort (news := []) (zs := kvs.map fun p => iab p.1) (F3.kept hk) News.nil hD (Nat.ne_of_gt (hlt _ _ eL)) ?_ (by simp) (by rw [List.length_map]; exact la.symm) (by omega) hnd (fun i v z hv hz => ?_) ?_
      · cases q : g.get? D with
        | none => rfl
        | some o => exact absurd (hlt _ _ (F3.keep _ _ q)) (Nat.lt_irrefl _)
      · intro h2 tk2 hst
        obtain ⟨x, t, rfl, rfl⟩ : ∃ x t, v = .int x t ∧ z = iab x := by
          rw [List.getElem?_map] at hz
          cases q : kvs[i]? with
          | none => rw [q] at hz; cases hz
          | some p =>
            rw [q] at hz
            have e : (kvs.map (·.1))[i]? = some p.1 := by rw [List.getElem?_map, q]; rfl
            obtain ⟨t, ht⟩ := ia.get i _ e
            rw [hv] at ht
            exact ⟨p.1, t, Option.some.inj ht, (Option.some.inj hz).symm⟩
        refine use_lo (order_of_c Xg Tg hst fun h3 tk3 D3 t3 k3 _ hD3 => ?_) rfl (Nat.le_of_ble_eq_true rfl) (Nat.le_of_ble_eq_true rfl)
        exact ⟨h3, tk3, D3, t3, _, rfl, rfl, k3.all, hD3⟩
      · intro h2 tk2 out c p F4 N4 so
        obtain ⟨ys, iy, hy, py⟩ := kv_sorted kv ia so
        refine ⟨rfl, ?_⟩
        clear N3 F3
        k_steps
        have lo4 : out.length ≤ 4 := by rw [so.out_, List.length_map, so.perm.length_eq, List.length_range]; omega
        refine kde_tupleOf F4 N4 (N4.isList (.head _)) (by simp; omega) (List.toList_toArray ..) fun D' h3 F5 N5 l5 => ?_
        refine hretS hcl _ _ D' ys (Keep.of_base hg F5.keep) ⟨out, iy, _, (N5 _ (.head _)).1, rfl, 0, rfl⟩ ?_ hy py
        have q := (N5 _ (.head _)).2.2
        rw [hg] at q
        exact q
end
end STidy
theorem word10 : True := by
  k_with_none
  k_with "call builtin:len" => (k_here; (with_reducible show wpAny _ _ (call (Value.builtin "len") [Value.ref _]) _ _ _); (with_unfolding_all refine' len_tupI ?k1 ?k2 ?k3 ?_; (case k1 => first | assumption | exact Fr.tup (by assumption) (by assumption)); (case k2 => l_ints); (case k3 => l_fit); k_whole))
  k_with "call builtin:len" => (k_here; (with_reducible show wpAny _ _ (call (Value.builtin "len") [Value.ref _]) _ _ _); (with_unfolding_all refine' len_lst ?k1 ?k3 ?_; (case k1 => exact News.isList (by k_asm) (by k_mem)); (case k3 => (simp only [List.length_map]; omega)); k_whole))
  k_with "subscriptTail" => (k_here; (with_reducible show wpAny _ _ (subscriptTail _ _ (Value.ref _) (Value.int _ _)) _ _ _); (with_unfolding_all refine' item_tuple_ints ?k1 ?k2 ?k3 ?k4 ?k5 ?_ ?k6 ?k7; (case k1 => first | assumption | exact Fr.tup (by assumption) (by assumption)); (case k2 => l_ints); (case k3 => omega); (case k4 => omega); (case k5 => omega); (case k6 => with_unfolding_all rfl); (case k7 => (intro _; with_unfolding_all rfl)); k_whole); intro _)
  k_with "subscriptTail" => (k_here; (with_reducible show wpAny _ _ (subscriptTail _ _ (Value.ref _) (Value.int _ _)) _ _ _); (with_unfolding_all refine' item_listR ?k1 ?k2 ?k3 ?k4 ?_ ?k6; (case k4 => assumption); (case k1 => exact News.isList (by k_asm) (by k_mem)); (case k2 => omega); (case k3 => omega); (case k6 => with_unfolding_all rfl); k_whole))
  k_with "exec For Name Name cons nil" => (k_here; (rename Fr _ _ _ _ => lF'); (with_unfolding_all refine' for_walksF lF' ?k1 ?k2 ?_; (case k1 => exact rfl); (case k2 => exact rfl); k_whole))
  k_with "exec For Name Call cons nil" => (k_here; (rename Fr _ _ _ _ => lF'); (with_unfolding_all refine' for_walksF lF' ?k1 ?k2 ?_; (case k1 => exact rfl); (case k2 => exact rfl); k_whole))
  trivial
section SRes

/-- a clause in order over five variables -/
structure Tid (xs : List Int) : Prop where
  rng : ∀ x ∈ xs, 1 ≤ iab x ∧ iab x ≤ 5
  ord : (xs.map iab).Pairwise (· < ·)
def rest (xs ys : List Int) (v : Int) : List Int := xs.filter (fun x => iab x != v) ++ ys.filter (fun x => iab x != v)
theorem Tid.ne {xs : List Int} (t : Tid xs) : ∀ x ∈ xs, x ≠ 0 := fun x hx e => by have := t.rng x hx; subst e; simp [iab] at this
theorem Tid.opp {xs : List Int} (t : Tid xs) {v : Int} (h : v ∈ xs) : -v ∉ xs := fun h' => by
  have hv := t.ne v h
  have e : iab v = iab (-v) := by unfold iab; split <;> split <;> omega
  obtain ⟨i, hi, ei⟩ := List.mem_iff_getElem.mp h
  obtain ⟨j, hj, ej⟩ := List.mem_iff_getElem.mp h'
  have p := List.pairwise_iff_getElem.mp t.ord
  rcases Nat.lt_trichotomy i j with q | q | q
  · have := p i j (by simpa using hi) (by simpa using hj) q; simp [ei, ej] at this; omega
  · subst q; rw [ei] at ej; omega
  · have := p j i (by simpa using hj) (by simpa using hi) q; simp [ei, ej] at this; omega
theorem Tid.filt {xs : List Int} (t : Tid xs) {v : Int} (h : v ∈ xs) : xs.filter (fun x => x != v) = xs.filter (fun x => iab x != iab v) := by
  refine List.filter_congr fun x hx => ?_
  rw [Bool.eq_iff_iff]
  simp only [bne_iff_ne, ne_eq]
  constructor
  · intro n e
    rcases iab_inj e with q | q
    · exact n q
    · subst q; exact absurd hx (t.opp h)
  · intro n e; exact n (e ▸ rfl)
theorem in_yes {prog : Program} {w : World} {A : Around} {E Q : Value → Shared → Prop} {s : Shared} {g : Heap} {L a : Addr} {m : Str → Option Value} {vs : List Value} {ns : List Int} {x : Int} {u : Tok} (F : Fr g L s.heap m) (ht : IsTup g a vs.toArray) (hi : IntsAre vs ns)
    (h : x ∈ ns) (hq : Q (.bool true) s) : wpAny (model prog w) A (compareOp .In (.int x u) (.ref a)) Q E s := by
  refine in_tuple_ints (F.tup ht) hi ?_
  rw [show ns.any (· == x) = true from List.any_eq_true.mpr ⟨x, h, beq_self_eq_true x⟩]
  exact hq
theorem in_no {prog : Program} {w : World} {A : Around} {E Q : Value → Shared → Prop} {s : Shared} {g : Heap} {L a : Addr} {m : Str → Option Value} {vs : List Value} {ns : List Int} {x : Int} {u : Tok} (F : Fr g L s.heap m) (ht : IsTup g a vs.toArray) (hi : IntsAre vs ns)
    (h : x ∉ ns) (hq : Q (.bool false) s) : wpAny (model prog w) A (compareOp .In (.int x u) (.ref a)) Q E s := by
  refine in_tuple_ints (F.tup ht) hi ?_
  rw [show ns.any (· == x) = false from by
    rw [List.any_eq_false]
    intro y hy e
    exact h (beq_iff_eq.mp e ▸ hy)]
  exact hq
theorem updF_upd {d : Addr} {o o' : Obj} : ∀ {l : List (Addr × Obj)} {g : Obj → List (Addr × Obj)}, UpdF d o l g → Upd d o o' l (g o')
  | _, _, .head h => .head h
  | _, _, .tail h r => .tail h (updF_upd r)
theorem ext_lst {prog : Program} {w : World} {A : Around} {E Q : Value → Shared → Prop} {s : Shared} {g₀ : Heap} {L D b : Addr} {m : Str → Option Value} {news : List (Addr × Obj)} {g : Obj → List (Addr × Obj)} {vs ws : List Value} {n n2 : Nat} (F : Fr g₀ L s.heap m) (N : News g₀ L s.heap news)
    (U : UpdF D (listOf vs.toArray n) news g) (hb : (b, listOf ws.toArray n2) ∈ news) (hz : vs.length < 1000) (hz2 : ws.length < 1000)
    (h : ∀ h' n', Fr g₀ L h' m → News g₀ L h' (g (listOf (vs ++ ws).toArray n')) → Q .none { s with heap := h' }) : wpAny (model prog w) A (call (.builtin "list.extend") [.ref D, .ref b]) Q E s := by
  have hno : ¬(!(List.toArray vs).isEmpty && Builtin.List.listTooLong ((List.toArray vs).size + (List.toArray ws).size)) = true := by
    have : Builtin.List.listTooLong ((List.toArray vs).size + (List.toArray ws).size) = false := by
      unfold Builtin.List.listTooLong
      simp only [List.size_toArray, decide_eq_false_iff_not, sizeLine_eq]
      omega
    rw [this]; simp
  by_cases e : ws = []
  · subst e
    refine kxn_extend F N hb rfl (updF_upd U) hno (by rw [sizeLine_eq]; simp; omega) (by rw [sizeLine_eq]; simp; omega) fun h' F' N' => ?_
    rw [← List.append_nil vs] at N'
    exact h h' n F' N'
  · exact kl_extend F N hb (l := vs ++ ws) rfl (fun q => e (List.eq_nil_of_length_eq_zero q)) (updF_upd U) hno (by rw [sizeLine_eq]; simp; omega) (by rw [sizeLine_eq]; simp; omega) fun h' F' N' => h h' (n + 1) F' N'
theorem word11 : True := by
  k_with "call builtin:list.extend" => (k_here; (with_reducible show wpAny _ _ (call (Value.builtin _) [Value.ref _, Value.ref _]) _ _ _); k_dflt (refine' ext_lst ?F ?N ?U ?b ?z ?y ?_; (case F => k_asm); (case N => k_asm); (case U => k_updF); (case b => k_mem); (case z => omega); (case y => omega)); intro h' n' F' N'; (try dsimp only at N'))
  k_with "compareOp In int ref" => (k_here; k_dflt (first | refine in_yes (by k_asm) (by assumption) (by assumption) (by assumption) ?_ | refine in_no (by k_asm) (by assumption) (by assumption) (by assumption) ?_))
  k_with "eval ListComp" => (k_here; k_dflt (refine' eval_ints ?k1 ?k2 ?k3 ?k4 ?k5 ?_; (case k1 => with_unfolding_all rfl); (case k2 => decide); (case k3 => rfl); (case k4 => decide); (case k5 => rfl); k_whole))
  k_with "exec Assign cons ListComp" => (k_here; k_dflt (refine' assign_ints ?k0 ?k1 ?k2 ?k3 ?k4 ?k5 ?k6 ?k7 ?_; (case k0 => with_unfolding_all rfl); (case k1 => with_unfolding_all rfl); (case k2 => decide); (case k3 => rfl); (case k4 => decide); (case k5 => rfl); (case k6 => rfl); (case k7 => rfl); k_whole))
  trivial
theorem ints_app {ws : List Value} {ys : List Int} (h2 : IntsAre ws ys) : ∀ {vs : List Value} {xs : List Int}, IntsAre vs xs → IntsAre (vs ++ ws) (xs ++ ys)
  | _, _, .nil => h2
  | _, _, .cons n t h => .cons n t (ints_app h2 h)
theorem iab_neg (v : Int) : iab (-v) = iab v := by unfold iab; split <;> split <;> omega
theorem iab_pos {v : Int} (h : 1 ≤ v) : iab v = v := by unfold iab; split <;> omega
theorem rest_rng {xs ys : List Int} {v : Int} (tx : Tid xs) (ty : Tid ys) : ∀ x ∈ rest xs ys v, 1 ≤ iab x ∧ iab x ≤ 5 ∧ iab x ≠ v := by
  intro x hx
  rcases List.mem_append.mp hx with h | h
  · have := List.mem_filter.mp h
    have r := tx.rng x this.1
    exact ⟨r.1, r.2, by simpa using this.2⟩
  · have := List.mem_filter.mp h
    have r := ty.rng x this.1
    exact ⟨r.1, r.2, by simpa using this.2⟩
theorem rest_len (xs ys : List Int) (v : Int) (h1 : xs.length < 40) (h2 : ys.length < 40) : (rest xs ys v).length < 100 := by
  unfold rest
  rw [List.length_append]
  have := List.length_filter_le (fun x => iab x != v) xs
  have := List.length_filter_le (fun x => iab x != v) ys
  omega
theorem fresh_keep {h h' : Heap} {D : Addr} (k : ∀ b o, h.get? b = some o → h'.get? b = some o) (e : h'.get? D = none) : h.get? D = none := by
  cases q : h.get? D with
  | none => rfl
  | some o => rw [k _ _ q] at e; cases e
section
variable {w : World} {mean : ExcName → Option Value} {mg mb : Str → Option Value} {B : Heap} {s : Shared} {Q E : Value → Shared → Prop}
theorem resolve_ok (X : (Mine.hd.heap_39 w.params).In B) (T : Tp mean mg mb B) (hB : B.StaysIn s.heap) {a b : Addr} {xs ys : List Int} {v : Int} {tv : Tok} (ha : TupInts s.heap a xs) (hb : TupInts s.heap b ys) (tx : Tid xs) (ty : Tid ys) (hxl : xs.length < 40) (hyl : ys.length < 40)
    (hv : 1 ≤ v ∧ v ≤ 5) (hcl : (v ∈ xs ∧ -v ∈ ys) ∨ (-v ∈ xs ∧ v ∈ ys))
    (hretN : (∃ x ∈ rest xs ys v, -x ∈ rest xs ys v) → ∀ h' tk, Keep [] s.heap h' → Q .none { s with heap := h', toks := tk })
    (hretS : (∀ x ∈ rest xs ys v, -x ∉ rest xs ys v) → ∀ h' tk D zs, Keep [] s.heap h' → TupInts h' D zs → s.heap.get? D = none → (∀ y, y ∈ zs ↔ y ∈ rest xs ys v) → (zs.map iab).Pairwise (· < ·) → Q (.ref D) { s with heap := h', toks := tk }) :
    wpAny (model PySem.Challenge.rw_rg0222_01.row.prog w) (lo 680 4800) (call (.ref 582) [.ref a, .ref b, .int v tv]) Q E s := by
  refine wpAny_call ?_
  k_dflt (refine' enterC (binds := [(Str.ofString "one", .ref a), (Str.ofString "other", .ref b), (Str.ofString "variable", .int v tv)]) [] X T.nolimit hB (by simp) ?k6 ?k7 ?k8 ?k9 ?kB ?kC ?_ ?c2 ?c3 ?c4; (case k6 => k_is); (case k7 => k_is); (case k8 => decide); (case k9 => exact BindsTo.of_eq rfl); (case kB => exact rfl); (case kC => decide); (case c2 => exact rfl); (case c3 => exact rfl); (case c4 => exact rfl))
  intro g L h₁ tk₁ cells hg hL F N Y hk₁ sg Xg
  have Tg := T.keeps sg
  k_cells Y
  obtain ⟨vx, ix, hx⟩ := ha
  obtain ⟨vy, iy, hy⟩ := hb
  have hxg : IsTup g a vx.toArray := by
    obtain ⟨o, ho, r⟩ := hx
    exact ⟨o, hide1 hg ho (by simp), r⟩
  have hyg : IsTup g b vy.toArray := by
    obtain ⟨o, ho, r⟩ := hy
    exact ⟨o, hide1 hg ho (by simp), r⟩
  refine wpAny_mono (E := fun _ _ => False) ?_ (fun _ _ h => h) (fun _ _ h => h.elim)
  k_fold
  have oy := @Tid.opp ys ty
  have ox := @Tid.opp xs tx
  rcases hcl with ⟨c1, c2⟩ | ⟨c1, c2⟩
  · k_steps
    rename Fr _ _ _ _ => F2
    rename News _ _ _ _ => N2
    refine IntsC.intro (fun x => x != v) (fun x => x) rfl F2 N2 (.inl hxg) ix (by omega) (fun n t C oC m₂ h tk hn no hm F3 N3 hne => ?_) ?_
    · clear F2 N2
      k_steps
      · exact ⟨by simpa using (by assumption : n ≠ v), ⟨_, rfl⟩, _, _, rfl, Keep.refl _ _⟩
      · exact ⟨by simpa using (by assumption : n = v), _, _, rfl, Keep.refl _ _⟩
    · intro D zs h' tk n F4 N4 l4 iz
      rw [List.map_id', tx.filt c1] at iz
      k_lt l4
      clear F2 N2
      k_steps
      rename Fr _ _ _ _ => F2
      rename News _ _ _ _ => N2
      refine IntsC.intro (fun x => x != -v) (fun x => x) rfl F2 N2 (.inl hyg) iy (by omega) (fun n t C oC m₂ h tk hn no hm F3 N3 hne => ?_) ?_
      · clear F2 N2
        k_steps
        · exact ⟨by simpa using (by assumption : n ≠ -v), ⟨_, rfl⟩, _, _, rfl, Keep.refl _ _⟩
        · exact ⟨by simpa using (by assumption : n = -v), _, _, rfl, Keep.refl _ _⟩
      · intro D2 zs2 h' tk n F4 N4 l5 iz2
        rw [List.map_id', ty.filt c2] at iz2
        k_lt l5
        clear F2 N2
        have z1 : zs.length < 1000 := by rw [iz.length]; exact Nat.lt_of_le_of_lt (List.length_filter_le ..) (by omega)
        have z2 : zs2.length < 1000 := by rw [iz2.length]; exact Nat.lt_of_le_of_lt (List.length_filter_le ..) (by omega)
        k_steps
        rename Fr _ _ _ _ => F2
        rename News _ _ _ _ => N2
        have ir : IntsAre (zs ++ zs2) (rest xs ys v) := by
          rw [iab_pos hv.1] at iz
          rw [iab_neg, iab_pos hv.1] at iz2
          exact ints_app iz2 iz
        have kk := (Keep.of_base hg F2.keep)
        refine use_lo (tidy_c Xg Tg (by exact F2.keep) (News.isList N2 (.tail _ (.head _))) ir (rest_len xs ys v hxl hyl) (fun x hx e => ?_) hv (rest_rng tx ty) (fun e h3 tk3 k3 => hretN e h3 tk3 (kk.trans k3)) (fun e h3 tk3 D3 ys3 k3 t3 f3 m3 p3 => hretS e h3 tk3 D3 ys3 (kk.trans k3) t3 (fresh_keep kk.all f3) m3 p3)) rfl (Nat.le_of_ble_eq_true rfl) (Nat.le_of_ble_eq_true rfl)
        have := rest_rng tx ty x hx
        subst e
        simp [iab] at this
  · have n1 : v ∉ xs := fun q => ox q c1
    k_steps
    rename Fr _ _ _ _ => F2
    rename News _ _ _ _ => N2
    refine IntsC.intro (fun x => x != -v) (fun x => x) rfl F2 N2 (.inl hxg) ix (by omega) (fun n t C oC m₂ h tk hn no hm F3 N3 hne => ?_) ?_
    · clear F2 N2
      k_steps
      · exact ⟨by simpa using (by assumption : n ≠ -v), ⟨_, rfl⟩, _, _, rfl, Keep.refl _ _⟩
      · exact ⟨by simpa using (by assumption : n = -v), _, _, rfl, Keep.refl _ _⟩
    · intro D zs h' tk n F4 N4 l4 iz
      rw [List.map_id', tx.filt c1] at iz
      k_lt l4
      clear F2 N2
      k_steps
      rename Fr _ _ _ _ => F2
      rename News _ _ _ _ => N2
      refine IntsC.intro (fun x => x != v) (fun x => x) rfl F2 N2 (.inl hyg) iy (by omega) (fun n t C oC m₂ h tk hn no hm F3 N3 hne => ?_) ?_
      · clear F2 N2
        k_steps
        · exact ⟨by simpa using (by assumption : n ≠ v), ⟨_, rfl⟩, _, _, rfl, Keep.refl _ _⟩
        · exact ⟨by simpa using (by assumption : n = v), _, _, rfl, Keep.refl _ _⟩
      · intro D2 zs2 h' tk n F4 N4 l5 iz2
        rw [List.map_id', ty.filt c2] at iz2
        k_lt l5
        clear F2 N2
        have z1 : zs.length < 1000 := by rw [iz.length]; exact Nat.lt_of_le_of_lt (List.length_filter_le ..) (by omega)
        have z2 : zs2.length < 1000 := by rw [iz2.length]; exact Nat.lt_of_le_of_lt (List.length_filter_le ..) (by omega)
        k_steps
        rename Fr _ _ _ _ => F2
        rename News _ _ _ _ => N2
        have ir : IntsAre (zs ++ zs2) (rest xs ys v) := by
          rw [iab_neg, iab_pos hv.1] at iz
          rw [iab_pos hv.1] at iz2
          exact ints_app iz2 iz
        have kk := (Keep.of_base hg F2.keep)
        refine use_lo (tidy_c Xg Tg (by exact F2.keep) (News.isList N2 (.tail _ (.head _))) ir (rest_len xs ys v hxl hyl) (fun x hx e => ?_) hv (rest_rng tx ty) (fun e h3 tk3 k3 => hretN e h3 tk3 (kk.trans k3)) (fun e h3 tk3 D3 ys3 k3 t3 f3 m3 p3 => hretS e h3 tk3 D3 ys3 (kk.trans k3) t3 (fresh_keep kk.all f3) m3 p3)) rfl (Nat.le_of_ble_eq_true rfl) (Nat.le_of_ble_eq_true rfl)
        have := rest_rng tx ty x hx
        subst e
        simp [iab] at this
end
end SRes
section SExc

section
variable {w : World} {A : Around} {R : Result → Shared → Prop} {h : Heap} {g : Array GenState} {d : Drawn} {t : Nat} {os : OsState}
abbrev prog1 : Program := PySem.Challenge.rw_rg0222_01.row.prog
def excTail : List Value := [.ref 47, .type "Exception", .type "BaseException", .type "object"]
theorem exc_cls (X : (Mine.hd.heap_39 w.params).In h) : ∃ nm q bs sub k0 k1 k2 k3 k5 dd, h.get? 76 = some (excClassObj nm q 76 75 bs excTail true [] sub false none dd k0 k1 k2 k3 k5 "Exception.__new__") := by
  have e : ∃ nm q bs sub k0 k1 k2 k3 k5 dd, (Mine.hd.heap_39 w.params).lookup 76 = some (excClassObj nm q 76 75 bs excTail true [] sub false none dd k0 k1 k2 k3 k5 "Exception.__new__") := ⟨_, _, _, _, _, _, _, _, _, _, by k_is⟩
  obtain ⟨nm, q, bs, sub, k0, k1, k2, k3, k5, dd, e⟩ := e
  exact ⟨nm, q, bs, sub, k0, k1, k2, k3, k5, dd, X 76 _ e⟩
theorem exc_new (X : (Mine.hd.heap_39 w.params).In h) {rest : List Value} (hrest : rest.length ≤ sizeLine)
    (hq : R (.ok (.ret (.ref (h.objs.size + 1)))) ⟨(h.push { cls := .type "tuple", data := .seq rest.toArray }).push
      { cls := .ref 76, data := .fields #[.ref h.objs.size, .none, .none, .none, .bool false, .none] }, g, d, t, os⟩) :
    codeAny (model prog1 w) A (.builtin "Exception.__new__" ⟨.ref 76 :: rest, []⟩) R ⟨h, g, d, t, os⟩ := by
  obtain ⟨nm, q, bs, sub, k0, k1, k2, k3, k5, dd, hC⟩ := exc_cls X
  have Fn := PySem.F.excBase_Exception
  have hends := Fn.ends
  have hcB : (Value.ref 76 :: excTail).contains (.type "Exception") = true := by decide
  have hcA : (Value.ref 76 :: excTail).contains (.type "AttributeError") = false := by decide
  have hcN : (Value.ref 76 :: excTail).contains (.type "NameError") = false := by decide
  refine codeAny_builtinAt Fn.entry ?_
  unfold Builtin.«BaseException.__new__»
  refine _root_.PySem.wpAt_bind ?_
  show _root_.PySem.wpAt _ _ _ (stack >>= _) _ _ _
  refine _root_.PySem.wpAt_bind (_root_.PySem.wpAt_stack fun p below => _root_.PySem.wpAt_of_wpAny ?_)
  wp_walk
  refine _root_.PySem.wpAt_of_wpAny ?_
  rw [Fn.owner]
  repeat (first | with_reducible refine wpAny_madeHere_exc Fn.canon hC ?_ | with_reducible refine wpAny_loadPart_at hC ?_ | (with_reducible refine wpAny_isSubtype_exc hC ?_; first | rw [hcB] | rw [hcA] | rw [hcN]) | wp_step)
  show R _ _
  rw [Heap.size_push]
  exact hq
theorem exc_check_new (X : (Mine.hd.heap_39 w.params).In h) {E : Value → Shared → Prop} {rest : List Value} {Q : Unit → Shared → Prop} (hq : Q () ⟨h, g, d, t, os⟩) :
    wpAny (model prog1 w) A (checkBuiltinCall "Exception.__new__" ⟨.ref 76 :: rest, []⟩) Q E ⟨h, g, d, t, os⟩ := by
  obtain ⟨nm, q, bs, sub, k0, k1, k2, k3, k5, dd, hC⟩ := exc_cls X
  have Fn := PySem.F.excBase_Exception
  have hcont : (Value.ref 76 :: excTail).contains (.type "Exception") = true := by decide
  have hstar := Fn.noStar
  simp only [checkBuiltinCall, Fn.newKind, Fn.newSplit, Fn.newRow]
  repeat (first | refine wpAny_loadPart_at hC ?_ | (refine wpAny_isSubtype_exc hC ?_; rw [hcont]) | refine wpAny_staticBase_exc hC ?_ | refine wpAny_madeBy_exc hC ?_ | simp only [bne_self_eq_false, Bool.false_eq_true, if_false] | wp_step)
  exact hq
theorem exc_make (X : (Mine.hd.heap_39 w.params).In h) {rest : List Value} (hrest : rest.length ≤ sizeLine)
    (hq : codeAny (model prog1 w) (A.under (.builtin "type.__call__" ⟨.ref 76 :: rest, []⟩)) (.call (.ref 66) ⟨.ref (h.objs.size + 1) :: rest, []⟩) (InitBack (h.objs.size + 1) R) ⟨(h.push { cls := .type "tuple", data := .seq rest.toArray }).push
      { cls := .ref 76, data := .fields #[.ref h.objs.size, .none, .none, .none, .bool false, .none] }, g, d, t, os⟩) :
    codeAny (model prog1 w) A (.call (.ref 76) ⟨rest, []⟩) R ⟨h, g, d, t, os⟩ := by
  obtain ⟨nm, q, bs, sub, k0, k1, k2, k3, k5, dd, hC⟩ := exc_cls X
  have Fn := PySem.F.excBase_Exception
  have f1 := tc_lookup
  have f2 := tc_bind (.ref 76)
  have hT : (⟨h, g, d, t, os⟩ : Shared).TypeIs (.ref 76) "type" := ⟨_, hC, rfl⟩
  refine codeAny_of_tree ?_
  show wpAny _ _ (callAny (.ref 76) _) _ _ _
  repeat (any_goals (first | assumption | with_reducible refine wpAny_loadPart_at hC ?_ | wp_step))
  refine ⟨rfl, ?_⟩
  refine codeAny_call_builtin_at (Code.quiet_builtin _ (by decide +kernel)) entry_typeCall (wpAny_check_type_call_sub hC ?_)
  repeat (first | with_reducible refine wpAny_loadPart_at hC ?_ | with_reducible refine wpAny_madeBy_exc hC ?_ | wp_step)
  refine codeAny_call_builtin_code (Code.quiet_builtin _ Fn.quiet) (exc_check_new X ?_)
  refine exc_new X hrest ?_
  show wpAny _ _ _ _ _ ⟨(h.push { cls := .type "tuple", data := .seq rest.toArray }).push { cls := .ref 76, data := .fields #[.ref h.objs.size, .none, .none, .none, .bool false, .none] }, g, d, t, os⟩
  generalize hH : (h.push { cls := .type "tuple", data := .seq rest.toArray }).push { cls := .ref 76, data := .fields #[.ref h.objs.size, .none, .none, .none, .bool false, .none] } = H at hq ⊢
  have k : ∀ b o, h.get? b = some o → H.get? b = some o := fun b o e => hH ▸ Heap.get?_push_of_some _ (Heap.get?_push_of_some _ e)
  have hC₁ := k _ _ hC
  have X₁ := X.keeps k
  have hget : H.get? (h.objs.size + 1) = some { cls := .ref 76, data := .fields #[.ref h.objs.size, .none, .none, .none, .bool false, .none] } := by rw [← hH]; heap_get
  have hcC : (Value.ref 76 :: excTail).contains (.ref 76) = true := by decide
  unfold isInstance
  repeat (first | with_reducible refine wpAny_loadPart_at hget ?_ | (with_reducible refine wpAny_isSubtype_exc hC₁ ?_; rw [hcC]) | wp_step)
  show wpAny _ _ (typeLookup (.ref 76) _) _ _ _
  have hfi : findIn (Mine.hd.heap_39 w.params) (.ref 76) (Str.ofString "__init__") = some (some (.ref 66)) := by k_is
  have hty : typeIn (Mine.hd.heap_39 w.params) (.ref 66) = some (.type "function") := by k_is
  refine Looks.at (looks_findIn X₁ hfi) ?_
  dsimp only
  refine wpAny_holding (wpAny_bind (Looks.at (bind_fn X₁ _ hty) ?_))
  dsimp only
  refine wpAny_bind (wpAny_call (codeAny_mono hq fun r s' z => ?_))
  rcases r with e | (v | _ | _ | _) <;> first | exact z | exact z.elim | skip
  obtain ⟨rfl, z⟩ := z
  exact wpAny_pure (wpAny_pure z)
end

section
open Builtin Builtin.ObjectAttr
variable {w : World} {A : Around} {E : Value → Shared → Prop} {R : Result → Shared → Prop} {h : Heap} {g : Array GenState} {d : Drawn} {t : Nat} {os : OsState} {x : Addr} {mA : Str → Option Value} {name : Str} {v : Value}
theorem exc_inst (I : h.Inst x 76 mA) : ∃ ox od, W.InstAt h x ox 76 od := by
  obtain ⟨o, hx, hc, hnc, hd⟩ := I
  have hno : notCls o = true := by
    unfold notCls
    cases q : o.data <;> first | rfl | exact absurd q (hnc _)
  rcases hd with ⟨hdn, _⟩ | ⟨dx, hdx, _, hns⟩
  · exact ⟨o, none, hx, hc, hno, by rw [hdn]; trivial⟩
  · obtain ⟨o', es, ep, e1, _⟩ := hns
    exact ⟨o, some o', hx, hc, hno, by rw [hdx]; exact e1⟩
theorem exc_open {tk : Tok} (X : (Mine.hd.heap_39 w.params).In h) (I : h.Inst x 76 mA) (ht : findIn (Mine.hd.heap_39 w.params) (.ref 76) name = some none)
    (hq : ∀ b, wpAny (model prog1 w) A.in1 (storeInOwnDict (.ref x) (.ref 76) (.str name tk) name v b)
      (fun fin s' => match fin with | .done f => R (.ok f) s' | .again c' => c'.quiet = true ∧ codeAny (model prog1 w) A c' R s') (fun e s' => R (.error e) s') ⟨h, g, d, t, os⟩) :
    codeAny (model prog1 w) A (.call (.builtin "object.__setattr__") ⟨[.ref x, .str name tk, v], []⟩) R ⟨h, g, d, t, os⟩ := by
  have SF := PySem.F.store_object
  obtain ⟨nm, q, bs, sub, k0, k1, k2, k3, k5, dd, hC⟩ := exc_cls X
  obtain ⟨ox, od, J⟩ := exc_inst I
  have hmro : mroIn (Mine.hd.heap_39 w.params) 76 (.type "object") = some true := by k_is
  have sub' : Looks (model prog1 w) h (isInstance (.ref x) (.type "object")) true := J.type.andThen (looks_mroIn X hmro)
  refine codeAny_call_builtin SF.slot.plain SF.entry (@check_slot (model prog1 w) _ _ _ "object.__setattr__" "object" "__setattr__" (.ref x) [.str name tk, v] [] _ SF.kind SF.split sub' (SF.args (.ref x) (.str name tk) v) ?_)
  have hm : Looks (model prog1 w) h (mroOf (.ref 76)) (.ref 76 :: excTail) := fun A Q E s k q => by
    obtain ⟨h2, g2, d2, t2, os2⟩ := s
    exact wpAny_mroOf_exc (k _ _ hC) q
  rw [osa_eq, refuse_eq]
  refine wpAny_bind (wpAny_bind (J.type.here (wpAny_bind (hm.here ?_))))
  rw [show refuseLoop (.ref x) "__setattr__" (.ref 76 :: excTail) = pure () from by
    unfold excTail
    rw [refuseLoop_ref, refuseLoop_ref]
    exact PySem.F.store_Exception.passes _]
  refine wpAny_pure (wpAny_bind (J.type.here (wpAny_bind ((looks_findIn X ht).here (wpAny_bind (wpAny_pure ?_))))))
  exact hq _
theorem exc_set {Q : Unit → Shared → Prop} {ns : List Str} (X : (Mine.hd.heap_39 w.params).In h) (I : h.Inst x 76 mA) (ht : findIn (Mine.hd.heap_39 w.params) (.ref 76) name = some none)
    (hq : ∀ h' tk', h'.Inst x 76 (fun y => if y = name then some v else mA y) →
      (∀ b o, b ≠ x → (∀ o₀ dx, h.get? x = some o₀ → o₀.dict = some dx → b ≠ dx) → h.get? b = some o → h'.get? b = some o) →
      (∀ o₀, h.get? x = some o₀ → ∃ o₁, h'.get? x = some o₁ ∧ o₁.cls = o₀.cls ∧ o₁.data = o₀.data ∧ o₁.slots = o₀.slots ∧ ∀ dx, o₁.dict = some dx → o₀.dict = some dx ∨ h.get? dx = none) → Q () ⟨h', g, d, tk', os⟩) (hw : Within mA ns) (hsz : ns.length ≤ 1000) :
    wpAny (model prog1 w) A (setAttr (.ref x) name v) Q E ⟨h, g, d, t, os⟩ := by
  obtain ⟨ox, od, J⟩ := exc_inst I
  obtain ⟨nm, q, bs, sub, k0, k1, k2, k3, k5, dd, hC⟩ := exc_cls X
  have hs : findIn (Mine.hd.heap_39 w.params) (.ref 76) "__setattr__" = some (some (.builtin "object.__setattr__")) := by k_is
  refine set_plain (s := ⟨h, g, d, t, os⟩) X J hs (exc_open X I ht fun b => ?_)
  obtain ⟨o, hx, hc, hnc, hd⟩ := I
  unfold storeInOwnDict ownStreamTells ownDictForStores instanceDict
  repeat (first | (with_reducible refine wpAny_loadPart_at hx ?_; rw [hc]) | with_reducible refine wpAny_loadPart_at hC ?_ | wp_step)
  rcases hd with ⟨hdn, hmA⟩ | ⟨dx, hdx, hne, hns⟩
  · rw [hdn, if_neg (by simp [typeHasDict])]
    split
    · rename_i hcd
      cases hcd
    split
    · rename_i c hcd
      exact absurd hcd (hnc c)
    · have hx₁ : (h.push { cls := .type "dict", data := .dict #[] }).get? x = some o := Heap.get?_push_of_some _ hx
      have hxs : x ≠ h.objs.size := Nat.ne_of_lt (Heap.lt_size hx)
      refine wpAny_bind (wpAny_alloc' ?_)
      refine wpAny_bind (wpAny_update' hx₁ ?_)
      refine wpAny_pure ?_
      have hgd : ((h.push { cls := .type "dict", data := .dict #[] }).update x fun o => { cls := o.cls, dict := some h.objs.size, data := o.data, slots := o.slots }).get? h.objs.size
          = some { cls := .type "dict", data := .dict #[] } :=
        (Heap.get?_update_ne _ _ _ _ hxs.symm).trans (Heap.get?_push_at rfl rfl)
      have hnd : ((h.push { cls := .type "dict", data := .dict #[] }).update x fun o => { cls := o.cls, dict := some h.objs.size, data := o.data, slots := o.slots }).Ns h.objs.size (fun _ => none) :=
        ⟨_, #[], _, hgd, rfl, fun e he => absurd he (by simp), fun _ => rfl⟩
      show wpAny _ _ (storeInDict h.objs.size (.str name _) name v) _ _ _
      unfold storeInDict newKeyGuard
      refine wpAny_bind (wpAny_pure (wpAny_bind (wpAny_nsSet1 (Heap.Ns1.of_empty hnd) fun h' hn' hs => ?_)))
      obtain ⟨oD, esD, epD, hoD, hdD, hcD⟩ := hn'.count (Within.cons name v Within.nil)
      refine wpAny_bind (wpAny_lookBehind hoD (by rw [hdD]; exact pastItsLine_dict (Nat.le_trans hcD (by rw [List.length_cons, List.length_nil, sizeLine_eq]; omega))) ?_)
      have hx' : h'.get? x = some { cls := o.cls, dict := some h.objs.size, data := o.data, slots := o.slots } := by
        refine (hs.2 x hxs).trans (Heap.get?_update_self _ hx₁ ?_)
        have hfr := (Heap.get?_some_iff.mp hx).2
        obtain ⟨oc, od, odt, osl⟩ := o
        cases odt <;> first | rfl | exact hfr
      refine wpAny_pure (hq h' _ ⟨{ cls := o.cls, dict := some h.objs.size, data := o.data, slots := o.slots }, hx', hc, hnc, .inr ⟨h.objs.size, rfl, hxs.symm, ?_⟩⟩ (fun b ob hbx _ hb => ?_)
        (fun o₀ h₀ => by obtain rfl : o = o₀ := Option.some.inj (hx.symm.trans h₀); exact ⟨_, hx', rfl, rfl, rfl, fun dx e => .inr (by cases e; exact Heap.get?_none_of_le (Nat.le_refl _))⟩))
      · obtain ⟨o', es, ep, e1, e2, e3, eu, e4⟩ := hn'
        exact ⟨o', es, ep, e1, e2, e3, eu, fun y => by rw [e4 y]; by_cases hy : y = name <;> simp [hy, hmA]⟩
      · exact (hs.2 b (Nat.ne_of_lt (Heap.lt_size hb))).trans ((Heap.get?_update_ne _ _ _ _ hbx).trans (Heap.get?_push_of_some _ hb))
  · rw [hdx]
    refine wpAny_pure ?_
    show wpAny _ _ (storeInDict dx (.str name _) name v) _ _ _
    unfold storeInDict newKeyGuard
    refine wpAny_bind (wpAny_pure (wpAny_bind (wpAny_nsSet1 hns fun h' hn' hs => ?_)))
    obtain ⟨oD, esD, epD, hoD, hdD, hcD⟩ := hn'.count (Within.cons name v hw)
    refine wpAny_bind (wpAny_lookBehind hoD (by rw [hdD]; exact pastItsLine_dict (Nat.le_trans hcD (by rw [List.length_cons, sizeLine_eq]; omega))) ?_)
    refine wpAny_pure (hq h' _ ⟨o, (hs.2 x hne.symm).trans hx, hc, hnc, .inr ⟨dx, hdx, hne, hn'⟩⟩ (fun b ob _ hbd hb => ?_)
      (fun o₀ h₀ => ⟨o₀, (hs.2 x hne.symm).trans h₀, rfl, rfl, rfl, fun _ e => .inl e⟩))
    exact (hs.2 b (hbd o dx hx hdx)).trans hb
end

namespace F
theorem slot_wd_get : Slot "wrapper_descriptor" "__get__" "wrapper_descriptor.__get__" := .of (owner := "wrapper_descriptor") (n := "__get__") (by rw [typeLookup_type, builtinLookup_eq_fast]; kernel_rfl) (by decide +kernel) (by decide +kernel) (by decide +kernel)
  (by first | exact .inl (by decide +kernel) | exact .inr (by decide +kernel)) (by rw [isSubtype_type]; kernel_rfl)
theorem entry_wd_get : entryFor table "wrapper_descriptor.__get__" = some Builtin.«wrapper_descriptor.__get__» := entryFor_of_tree (by kernel_rfl)
theorem args_wd (a b c : Value) : argsOk "wrapper_descriptor.__get__" ⟨[a, b, c], []⟩ := by unfold argsOk; kernel_rfl
theorem type_einit : typeOf (.builtin "Exception.__init__") = pure (.type "wrapper_descriptor") := by show builtinType _ = _; rw [builtinType_eq_fast]; kernel_rfl
theorem own_einit : ".".intercalate ("Exception.__init__".cutAt '.').dropLast = "Exception" := by decide +kernel
end F
section
variable {w : World} {A : Around} {E : Value → Shared → Prop} {R : Result → Shared → Prop} {h : Heap} {g : Array GenState} {d : Drawn} {t : Nat} {os : OsState} {x : Addr}
theorem bound_einit {Q : Unit → Shared → Prop} {ox : Obj} (X : (Mine.hd.heap_39 w.params).In h) (hx : h.get? x = some ox) (hc : ox.cls = .ref 76) (b : Value) (hq : Q () ⟨h, g, d, t, os⟩) :
    wpAny (model prog1 w) A (checkBoundCall "Exception.__init__" ⟨[.ref x, b], []⟩) Q E ⟨h, g, d, t, os⟩ := by
  obtain ⟨nm, q, bs, sub, k0, k1, k2, k3, k5, dd, hC⟩ := exc_cls X
  have Fn := PySem.F.excBase_Exception
  unfold checkBoundCall
  have hs := Fn.noStar
  simp only [Fn.initRow, Fn.initKind]
  rw [if_pos (by decide)]
  repeat (first | (with_reducible refine wpAny_loadPart_at hx ?_; rw [hc]) | with_reducible refine wpAny_loadPart_at hC ?_ | wp_step)
  exact hq
theorem einit_call {vs : Array Value} {dx : Option Addr} {sl : Array (Option Value)} {q : Addr} {v : Value} {Q : Value → Shared → Prop} (X : (Mine.hd.heap_39 w.params).In h) (hx : h.get? x = some ⟨.ref 76, dx, .fields vs, sl⟩) (h0 : 0 < vs.size)
    (hqo : h.get? q = some { cls := .type "method-wrapper", data := .fields #[.builtin "Exception.__init__", .ref x] })
    (hq : ∀ h', h'.get? x = some ⟨.ref 76, dx, .fields (vs.setIfInBounds 0 (.ref h.objs.size)), sl⟩ → (∀ b o, b ≠ x → h.get? b = some o → h'.get? b = some o) → Q .none ⟨h', g, d, t, os⟩) :
    wpAny (model prog1 w) A (call (.ref q) [v]) Q E ⟨h, g, d, t, os⟩ := by
  have Fn := PySem.F.excBase_Exception
  refine wpAny_call (codeAny_of_tree ?_)
  show wpAny _ _ (callAny (.ref q) _) _ _ _
  unfold callAny
  refine wpAny_bind (wpAny_load hqo ?_)
  show wpAny _ _ (do checkBoundCall "Exception.__init__" ⟨[.ref x, v], []⟩; again (.builtin "Exception.__init__" ⟨[.ref x, v], []⟩)) _ _ _
  refine wpAny_bind (bound_einit X hx rfl _ ?_)
  refine wpAny_pure ⟨plainId_quiet Fn.init.plain _, codeAny_builtin Fn.initEntry ?_⟩
  unfold Builtin.«BaseException.__init__»
  show wpAny _ _ (do let tt ← newTuple [v]; Builtin.BaseException.bexcPut (.ref x) 0 tt; ret .none) _ _ _
  refine wpAny_bind (wpAny_newTuple ?_ (by rw [sizeLine_eq]; simp))
  have hx' : (h.push { cls := .type "tuple", data := .seq (List.toArray [v]) }).get? x = some ⟨.ref 76, dx, .fields vs, sl⟩ := Heap.get?_push_of_some _ hx
  unfold Builtin.BaseException.bexcPut
  refine wpAny_bind (wpAny_bind (wpAny_field hx' rfl (x := vs[0]) (by simp [h0]) ?_))
  refine wpAny_bind (wpAny_setField hx' rfl h0 ?_)
  have fin : ∀ A' E', wpAny (model prog1 w) A' (pure ()) (fun _ s' => s' = (⟨(h.push { cls := .type "tuple", data := .seq (List.toArray [v]) }).update x (Obj.mapFields (·.setIfInBounds 0 (.ref h.objs.size))), g, d, t, os⟩ : Shared)) E' ⟨(h.push { cls := .type "tuple", data := .seq (List.toArray [v]) }).update x (Obj.mapFields (·.setIfInBounds 0 (.ref h.objs.size))), g, d, t, os⟩ := fun _ _ => wpAny_pure rfl
  have last : Q .none ⟨(h.push { cls := .type "tuple", data := .seq (List.toArray [v]) }).update x (Obj.mapFields (·.setIfInBounds 0 (.ref h.objs.size))), g, d, t, os⟩ := by
    refine hq _ ?_ fun b o hb e => ?_
    · exact Heap.get?_update_self _ hx' rfl
    · exact (Heap.get?_update_ne _ _ _ _ hb).trans (Heap.get?_push_of_some _ e)
  cases hv0 : vs[0] <;> first
    | exact wpAny_pure (wpAny_pure last)
    | exact wpAny_letGo (wpAny_pure last)
theorem wd_get {ox : Obj} {Q : Value → Shared → Prop} (X : (Mine.hd.heap_39 w.params).In h) (hx : h.get? x = some ox) (hc : ox.cls = .ref 76)
    (hq : Q (.ref h.objs.size) ⟨h.push { cls := .type "method-wrapper", data := .fields #[.builtin "Exception.__init__", .ref x] }, g, d, t, os⟩) :
    wpAny (model prog1 w) A (call (.builtin "wrapper_descriptor.__get__") [.builtin "Exception.__init__", .ref x, .ref 76]) Q E ⟨h, g, d, t, os⟩ := by
  obtain ⟨nm, q, bs, sub, k0, k1, k2, k3, k5, dd, hC⟩ := exc_cls X
  have hcB : (Value.ref 76 :: excTail).contains (.type "Exception") = true := by decide
  refine wpAny_call_entry F.slot_wd_get (show Shared.TypeIs _ (.builtin "Exception.__init__") "wrapper_descriptor" from F.type_einit) F.entry_wd_get ?_ (F.args_wd _ _ _)
  unfold Builtin.«wrapper_descriptor.__get__»
  repeat (first | (with_reducible refine wpAny_loadPart_at hx ?_; rw [hc]) | (with_reducible refine wpAny_isSubtype_exc hC ?_; rw [hcB]) | wp_step)
  rw [F.own_einit]
  repeat (first | (with_reducible refine wpAny_isSubtype_exc hC ?_; rw [hcB]) | wp_step)
  exact ⟨_, rfl, hq⟩

set_option maxHeartbeats 400000 in
theorem sup_ga {so : Addr} {ox : Obj} {tk : Tok} {Q : PySem.Fin → Shared → Prop} (X : (Mine.hd.heap_39 w.params).In h) (hso : h.get? so = some (ks_superObj 47 x 76)) (hx : h.get? x = some ox) (hc : ox.cls = .ref 76) (hx76 : x ≠ 76)
    (hq : Q (.done (.ret (.ref h.objs.size))) ⟨h.push { cls := .type "method-wrapper", data := .fields #[.builtin "Exception.__init__", .ref x] }, g, d, t, os⟩) :
    wpAny (model prog1 w) A (Builtin.«super.__getattribute__» ⟨[.ref so, .str (Str.ofString "__init__") tk], []⟩) Q E ⟨h, g, d, t, os⟩ := by
  obtain ⟨nm, q, bs, sub, k0, k1, k2, k3, k5, dd, hC⟩ := exc_cls X
  have ho : nsIn (Mine.hd.heap_39 w.params) cStatics "thirdparty.any" = some none := by k_is
  have hno : Looks (model prog1 w) h (opaqueClassAbove (.ref 76)) none := looks_opaque X ho
  have hm : Looks (model prog1 w) h (mroOf (.ref 76)) (.ref 76 :: excTail) := fun A Q E s k q => by
    obtain ⟨h2, g2, d2, t2, os2⟩ := s
    exact wpAny_mroOf_exc (k _ _ hC) q
  have hl : ((Value.ref 76 :: excTail).dropWhile (· != .ref 47)).drop 1 = [.type "Exception", .type "BaseException", .type "object"] := by decide
  have hu : ownIn (Mine.hd.heap_39 w.params) (Str.ofString "__init__") (.type "Exception") = some (some (.builtin "Exception.__init__")) := by
    have e : fastBuiltinOwn "Exception" (Str.ofString "__init__") = some (.builtin "Exception.__init__") := by decide +kernel
    simp only [ownIn, e]
  have hlk := F.slot_wd_get.lookup
  have hne : (Value.ref x == Value.ref 76) = false := by simp [hx76]
  have hn : ((Str.ofString "__init__" : Str) == ("__class__" : Str)) = false := by decide
  have hTf := F.type_einit
  have hdt : (ks_superObj 47 x 76).data = .fields #[.ref 47, .ref x, .ref 76] := rfl
  have f0 : (#[.ref 47, .ref x, .ref 76] : Array Value)[0]? = some (.ref 47) := rfl
  have f1 : (#[.ref 47, .ref x, .ref 76] : Array Value)[1]? = some (.ref x) := rfl
  have f2 : (#[.ref 47, .ref x, .ref 76] : Array Value)[2]? = some (.ref 76) := rfl
  unfold Builtin.«super.__getattribute__»
  repeat (first
    | (with_reducible refine wpAny_field hso hdt f0 ?_) | (with_reducible refine wpAny_field hso hdt f1 ?_) | (with_reducible refine wpAny_field hso hdt f2 ?_)
    | (with_reducible refine ks_wpAny_notOpaque hno ?_)
    | (with_reducible refine Looks.at hm ?_; rw [hl])
    | (rw [List.forIn_cons]; refine wpAny_bind (wpAny_bind (Looks.at (looks_ownIn X hu) ?_)))
    | (with_reducible refine wpAny_of_eq hTf ?_)
    | (with_reducible refine wpAny_of_eq hlk ?_)
    | (with_reducible refine wd_get X hx hc ?_)
    | (with_reducible refine ⟨_, rfl, ?_⟩)
    | (simp only [hn, hne, Bool.or_false, Bool.false_eq_true, if_false])
    | wp_step
    | dsimp only)
  all_goals exact hq
set_option maxHeartbeats 400000 in
theorem sup_method {so : Addr} {ox : Obj} {pl : Sem Bool} {Q : Value × List Value → Shared → Prop} (X : (Mine.hd.heap_39 w.params).In h) (hso : h.get? so = some (ks_superObj 47 x 76)) (hx : h.get? x = some ox) (hc : ox.cls = .ref 76) (hx76 : x ≠ 76)
    (hq : Q (.ref h.objs.size, []) ⟨h.push { cls := .type "method-wrapper", data := .fields #[.builtin "Exception.__init__", .ref x] }, g, d, t + 1, os⟩) :
    wpAny (model prog1 w) A (getMethod (.ref so) (Str.ofString "__init__") pl) Q E ⟨h, g, d, t, os⟩ := by
  have hlk := PySem.F.ks_slot_super_ga.lookup
  have hcan := PySem.F.ks_canon_super_ga
  have hT : ∀ t', (⟨h, g, d, t', os⟩ : Shared).TypeIs (.ref so) "super" := fun _ => ⟨_, hso, rfl⟩
  unfold getMethod
  refine wpAny_bind (wpAny_specialOf (hT _) hlk ?_)
  show wpAny _ _ (if (Manifest.canonical "super.__getattribute__" != "object.__getattribute__") = true then _ else _) _ _ _
  rw [if_pos hcan]
  unfold getAttr getAttrBy
  refine wpAny_bind (wpAny_bind (wpAny_mkText (wpAny_holding (wpAny_bind (wpAny_typeOf (hT _) (wpAny_bind (wpAny_of_eq hlk ?_)))))))
  show wpAny _ _ (getAttrByItsOwn (.ref so) (.str (Str.ofString "__init__") t) (.type "super") (.builtin "super.__getattribute__") true false) _ _ _
  unfold getAttrByItsOwn hookBefore callGetattribute boundAndCalled
  refine wpAny_bind (wpAny_of_eq (show (if onTheHeap (.type "super") then typeLookup (.type "super") "__getattr__" else pure none) = pure none from rfl) ?_)
  refine wpAny_bind (wpAny_attempt (wpAny_holding ?_))
  show wpAny _ _ (bindSpecial (.builtin "super.__getattribute__") (.ref so) >>= _) _ _ _
  refine wpAny_bind (wpAny_of_eq (PySem.F.ks_slot_super_ga.bind _) ?_)
  refine wpAny_mono (Q := fun v s' => v = .ref h.objs.size ∧ s' = ⟨h.push { cls := .type "method-wrapper", data := .fields #[.builtin "Exception.__init__", .ref x] }, g, d, t + 1, os⟩) (E := fun _ _ => False)
    (wpAny_call_entry PySem.F.ks_slot_super_ga (hT _) PySem.F.ks_entry_super_ga (sup_ga X hso hx hc hx76 ⟨_, rfl, rfl, rfl⟩) (PySem.F.ks_gaArgs_super _ _)) (fun v s' hv => ?_) fun _ _ z => z.elim
  obtain ⟨rfl, rfl⟩ := hv
  exact wpAny_pure (wpAny_pure hq)
end
end SExc
theorem word13 : True := by
  k_with_none
  k_with "call builtin:len" => (k_here; (with_reducible show wpAny _ _ (call (Value.builtin "len") [Value.ref _]) _ _ _); (with_unfolding_all refine' len_tupI ?k1 ?k2 ?k3 ?_; (case k1 => first | assumption | exact Fr.tup (by assumption) (by assumption)); (case k2 => l_ints); (case k3 => l_fit); k_whole))
  k_with "call builtin:len" => (k_here; (with_reducible show wpAny _ _ (call (Value.builtin "len") [Value.ref _]) _ _ _); (with_unfolding_all refine' len_lst ?k1 ?k3 ?_; (case k1 => exact News.isList (by k_asm) (by k_mem)); (case k3 => (simp only [List.length_map]; omega)); k_whole))
  k_with "subscriptTail" => (k_here; (with_reducible show wpAny _ _ (subscriptTail _ _ (Value.ref _) (Value.int _ _)) _ _ _); (with_unfolding_all refine' item_tuple_ints ?k1 ?k2 ?k3 ?k4 ?k5 ?_ ?k6 ?k7; (case k1 => first | assumption | exact Fr.tup (by assumption) (by assumption)); (case k2 => l_ints); (case k3 => omega); (case k4 => omega); (case k5 => omega); (case k6 => with_unfolding_all rfl); (case k7 => (intro _; with_unfolding_all rfl)); k_whole); intro _)
  k_with "subscriptTail" => (k_here; (with_reducible show wpAny _ _ (subscriptTail _ _ (Value.ref _) (Value.int _ _)) _ _ _); (with_unfolding_all refine' item_listR ?k1 ?k2 ?k3 ?k4 ?_ ?k6; (case k4 => assumption); (case k1 => exact News.isList (by k_asm) (by k_mem)); (case k2 => omega); (case k3 => omega); (case k6 => with_unfolding_all rfl); k_whole))
  k_with "exec For Name Name cons nil" => (k_here; (rename Fr _ _ _ _ => lF'); (with_unfolding_all refine' for_walksF lF' ?k1 ?k2 ?_; (case k1 => exact rfl); (case k2 => exact rfl); k_whole))
  k_with "exec For Name Call cons nil" => (k_here; (rename Fr _ _ _ _ => lF'); (with_unfolding_all refine' for_walksF lF' ?k1 ?k2 ?_; (case k1 => exact rfl); (case k2 => exact rfl); k_whole))
  trivial
section SExc2

section
variable {prog : Program} {w : World} {A : Around} {s : Shared} {R : Result → Shared → Prop} {name qual : Str} {params : Arguments} {body : List Stmt} {scope : Scope} {dV kV doc pm cdv ct oc : Value}
  {an od : Option Addr} {osl : Array (Option Value)} {f cc : Addr} {args : Args} {binds : List (Str × Value)} {K : Frag} {B : Heap}
theorem enterS (W : List Addr) (X : K.In B) (hlim : B.NoLimit) (hB : B.StaysIn s.heap) (hW : ∀ a ∈ W, B.get? a = none)
    (ho : K.lookup f = some ⟨oc, od, .func (ksFn name qual params body scope dV kV doc pm an cdv ct cc), osl⟩) (hcd : codeIn K cdv qual = true) (hroom : A.depth < recursionLimit)
    (hbind : BindsTo s (ksFn name qual params body scope dV kV doc pm an cdv ct cc) args binds) (hloc : ∀ y ∈ binds, scope.names.lookup y.1 = some .local)
    (h : ∀ g L h₁, g = hideAll s.heap W → L = s.heap.objs.size → Fr g L h₁ (fun y => binds.reverse.lookup y) → (∀ b o, s.heap.get? b = some o → h₁.get? b = some o) → B.StaysIn g → K.In g →
      _root_.PySem.wpAt (model prog w) (A.deeper (ksEnv qual scope L f cdv cc)) (.func body (ksEnv qual scope L f cdv cc)) (execs body (ksEnv qual scope L f cdv cc)) (fun fl s' => R (.ok (.ret (match fl with | .ret v => v | _ => .none))) s')
        (fun e s' => wpAny (model prog w) (A.deeper (ksEnv qual scope L f cdv cc)) (leaving (ksEnv qual scope L f cdv cc) e) (fun _ s'' => R (.error e) s'') (fun e' s'' => R (.error e') s'') s')
        { s with heap := h₁, toks := s.toks + binds.length })
    (hcell : ∀ x ∈ scope.names, x.2 ≠ .cell) (hco : scope.isCoroutine = false := by rfl) (hgen : scope.isGenerator = false := by rfl) (hk : scope.kind = .function := by rfl) : codeAny (model prog w) A (.call (.ref f) args) R s := by
  have st : B.StaysIn (hideAll s.heap W) := fun b o e => hideAll_get _ (hB b o e) fun m => by rw [hW b m] at e; cases e
  refine ks_codeAny_call_defAt (fd := ksFn name qual params body scope dV kV doc pm an cdv ct cc) (body := body) (binds := binds) hroom (hB _ _ (X _ _ ho)) rfl (hlim.keeps hB) (codeRec_of (X.keeps hB) hcd) rfl hbind hcell hloc (fun h₁ hns hk₁ => ?_) hco hgen hk
  exact h _ _ h₁ rfl rfl ⟨hns, fun b o e => hk₁ b o (of_hideAll _ e), Nat.le_of_eq (hideAll_size _ _)⟩ hk₁ st (X.keeps st)
end
theorem inst_exc {h₀ h : Heap} {L x C : Addr} {news : List (Addr × Obj)} {vs : Array Value} {sl : Array (Option Value)} (N : News h₀ L h news) (h1 : (x, (⟨.ref C, none, .fields vs, sl⟩ : Obj)) ∈ news) : W.InstAt h x ⟨.ref C, none, .fields vs, sl⟩ C none := ⟨(N _ h1).1, rfl, rfl, trivial⟩
local macro_rules | `(tactic| k_inst) => `(tactic| exact inst_exc (by k_asm) (by k_mem))
theorem callWith_fieldsE {M : Model} {A : Around} {E : Value → Shared → Prop} {s : Shared} {pos : Pos} {u : Addr} {ws : Array Value} {first : List Value} {args : List (Bool × Sem Value)} {Q : Value → Shared → Prop} (hplain : args.any (·.1) = false)
    (h : wpAny M A (evalArgs (.ref u) true args []) (fun x s₁ => s₁.heap.get? u = some { cls := .type "method-wrapper", data := .fields ws } ∧ wpAny M A (call (.ref u) (first ++ x.pos) x.kw) Q E s₁) E s) : wpAny M A (callWith pos (.ref u) first args []) Q E s := by
  unfold callWith
  refine wpAny_bind (wpAny_holding (wpAny_mono h (fun x s₁ h₁ => wpAny_bind (wpAny_standAt ?_)) fun _ _ x => x))
  obtain ⟨ho, hcall⟩ := h₁
  simp only [hplain, List.any_nil, Bool.or_false]
  refine wpAny_bind (m := keeperOf (.ref u)) ?_
  unfold keeperOf
  refine wpAny_bind (wpAny_load ho ?_)
  simp only [show (Value.type "method-wrapper" != Value.type "method") = true by decide, show (Value.type "method-wrapper" == Value.type "builtin_function_or_method" || Value.type "method-wrapper" == Value.type "method-wrapper") = true by decide, if_true]
  refine wpAny_pure ?_
  exact wpAny_bind (wpAny_mono hcall (fun r s₂ hr => wpAny_bind (wpAny_holding (wpAny_point (wpAny_pure hr)))) fun _ _ x => x)
theorem callWith_mw {M : Model} {A : Around} {E : Value → Shared → Prop} {s : Shared} {pos : Pos} {q : Addr} (ws : Array Value) {first : List Value} {env : Env} {e : Expr} {rest : List Expr} {Q : Value → Shared → Prop}
    (h : wpAny M A (spliced (backTo pos (starEach (e :: rest) env))) (fun vs s₁ => s₁.heap.get? q = some { cls := .type "method-wrapper", data := .fields ws } ∧ wpAny M A (call (.ref q) (first ++ vs)) Q E s₁) E s)
    (he : starEach (e :: rest) env = (false, eval e env) :: starEach rest env := by rfl) (hplain : (backTo pos (starEach rest env)).any (·.1) = false := by rfl) :
    wpAny M A (callWith pos (.ref q) first (backTo pos (starEach (e :: rest) env)) []) Q E s := by
  rw [he] at h ⊢
  refine callWith_fieldsE (ws := ws) (by show (false || (backTo pos (starEach rest env)).any (·.1)) = false; rw [hplain]; rfl) ?_
  exact evalArgs_plain h
section
variable {w : World} {mean : ExcName → Option Value} {mg mb : Str → Option Value} {B : Heap} {s : Shared} {Q E : Value → Shared → Prop}

/-- a fault as it is made -/
def FaultAt (h : Heap) (x : Addr) (dx : Option Addr) (t : Addr) : Prop := h.get? x = some ⟨.ref 76, dx, .fields #[.ref t, .none, .none, .none, .bool false, .none], #[]⟩

theorem smt_init_c {A : Around} {R : Result → Shared → Prop} (X : (Mine.hd.heap_39 w.params).In B) (T : Tp mean mg mb B) (hB : B.StaysIn s.heap) {x t0 : Addr} {what : Str} {tw : Tok} (hx : FaultAt s.heap x none t0) (hxB : B.get? x = none) (hA : A.depth < 900)
    (hret : ∀ h' tk d t, Keep [x] s.heap h' → FaultAt h' x (some d) t → s.heap.get? d = none → s.heap.get? t = none → h'.Inst x 76 (fun y => if y = Str.ofString "what" then some (.str what tw) else none) → R (.ok (.ret .none)) { s with heap := h', toks := tk }) :
    codeAny (model PySem.Challenge.rw_rg0222_01.row.prog w) A (.call (.ref 37) ⟨[.ref x, .str what tw], []⟩) R s := by
  have hroom : A.depth < recursionLimit := Nat.lt_of_lt_of_le hA (Nat.le_of_ble_eq_true rfl)
  k_dflt (refine' enterS (binds := [(Str.ofString "self", .ref x), (Str.ofString "what", .str what tw)]) [x] X T.nolimit hB (by simpa using hxB) ?k6 ?k7 ?k8 ?k9 ?kB ?_ ?c5 ?c2 ?c3 ?c4; (case k6 => k_is); (case k7 => k_is); (case k8 => exact hroom); (case k9 => exact BindsTo.of_eq rfl); (case c5 => decide); (case kB => exact locs rfl); (case c2 => exact rfl); (case c3 => exact rfl); (case c4 => exact rfl))
  intro g L h₁ hg hL F hk₁ sg Xg
  have Tg := T.keeps sg
  have N : News g L h₁ [(x, (⟨.ref 76, none, .fields #[.ref t0, .none, .none, .none, .bool false, .none], #[]⟩ : Obj))] := by
    intro p hp
    rw [List.mem_singleton.mp hp]
    exact ⟨hk₁ _ _ hx, hL ▸ Nat.ne_of_lt (Heap.lt_size hx), hg ▸ hideAll_none _ (.head _)⟩
  have hx76 : x ≠ 76 := fun e => by
    obtain ⟨_, _, _, _, _, _, _, _, _, _, hC⟩ := exc_cls X
    rw [← e, hxB] at hC
    cases hC
  k_steps
  rename Fr _ _ _ _ => F2
  rename News _ _ _ _ => N2
  have e1 := N2 _ (.head _)
  have e2 := N2 _ (.tail _ (.head _))
  refine sup_method (Xg.keeps F2.keep) e1.1 e2.1 rfl hx76 ?_
  have F3 := F2.push { cls := .type "method-wrapper", data := .fields #[.builtin "Exception.__init__", .ref x] }
  have N3 := N2.push F2 { cls := .type "method-wrapper", data := .fields #[.builtin "Exception.__init__", .ref x] }
  clear F2 N2
  dsimp only
  generalize hq : Heap.push _ _ = H at F3 N3 ⊢
  have e3 := N3 _ (.head _)
  have e4 := N3 _ (.tail _ (.tail _ (.head _)))
  dsimp only at e3 e4
  refine callWith_mw #[.builtin "Exception.__init__", .ref x] ?_
  k_steps
  · exact e3.1
  rename Fr _ _ _ _ => F4
  rename News _ _ _ _ => N4
  refine einit_call (Xg.keeps F4.keep) e4.1 (Nat.le_of_ble_eq_true rfl) e3.1 fun h5 hx5 hk5 => ?_
  have k5 : Keep [x] _ h5 := fun b o n e => hk5 b o (fun q => n (q ▸ .head _)) e
  have F5 := fr_call F4 k5 (fun q => e4.2.1 (List.mem_singleton.mp q).symm) (fun a m => by rw [List.mem_singleton.mp m]; exact e4.2.2)
  have N5 : News g L h5 [] := News.nil
  have kH : Keep [x] s.heap H := Keep.of_base hg F4.keep
  clear F4 
  k_steps
  have ht : findIn (Mine.hd.heap_39 w.params) (.ref 76) (Str.ofString "what") = some none := by k_is
  refine exc_set (mA := fun _ => none) (ns := []) (Xg.keeps F5.keep) ⟨_, hx5, rfl, (fun c q => by cases q), .inl ⟨rfl, fun _ => rfl⟩⟩ ht (fun h6 tk6 I6 k6 m6 => ?_) Within.nil (Nat.zero_le _)
  obtain ⟨o₁, ho₁, c1, c2, c3, c4⟩ := m6 _ hx5
  obtain ⟨o₂, ho₂, _, _, ⟨_, hm⟩ | ⟨dx, hdx, _, _⟩⟩ := id I6
  · exact absurd (hm (Str.ofString "what")) (by simp)
  rw [ho₁] at ho₂
  cases ho₂
  have k6' : ∀ b o, b ≠ x → h5.get? b = some o → h6.get? b = some o := fun b o n e => k6 b o n (fun o₀ d' e' e'' => by rw [hx5] at e'; cases e'; cases e'') e
  have F6 := fr_call F5 (fun b o n e => k6' b o (fun q => n (q ▸ .head _)) e : Keep [x] h5 h6) (fun q => e4.2.1 (List.mem_singleton.mp q).symm) (fun a m => by rw [List.mem_singleton.mp m]; exact e4.2.2)
  have N6 : News g L h6 [] := News.nil
  have frH : ∀ b, b ≠ x → H.get? b = none → s.heap.get? b = none := fun b n e => by
    cases q : s.heap.get? b with
    | none => rfl
    | some o => rw [kH b o (fun m => n (List.mem_singleton.mp m)) q] at e; cases e
  clear F5 N5
  k_steps
  refine hret h6 _ dx H.objs.size ((Keep.of_base hg F6.keep)) ?_ ?_ ?_ I6
  · obtain ⟨a1, a2, a3, a4⟩ := o₁
    dsimp only at c1 c2 c3 hdx
    subst c1 c2 c3 hdx
    exact ho₁
  · have hd5 : h5.get? dx = none := by
      rcases c4 dx hdx with q | q
      · cases q
      · exact q
    have hne : dx ≠ x := fun q => by rw [q, hx5] at hd5; cases hd5
    refine frH dx hne ?_
    cases q : H.get? dx with
    | none => rfl
    | some o => rw [hk5 _ _ hne q] at hd5; cases hd5
  · refine frH _ (fun q => ?_) (Heap.get?_none_of_le (Nat.le_refl _))
    have := Heap.lt_size e4.1
    rw [← q] at this
    exact absurd this (Nat.lt_irrefl _)

theorem fault_init_c {A : Around} {R : Result → Shared → Prop} (X : (Mine.hd.heap_39 w.params).In B) (T : Tp mean mg mb B) (hB : B.StaysIn s.heap) {x t0 : Addr} {what : Str} {tw ts : Tok} {step : Int} (hx : FaultAt s.heap x none t0) (hxB : B.get? x = none) (hA : A.depth < 800)
    (hret : ∀ h' tk d t, Keep [x] s.heap h' → FaultAt h' x (some d) t → s.heap.get? d = none → s.heap.get? t = none → R (.ok (.ret .none)) { s with heap := h', toks := tk }) :
    codeAny (model PySem.Challenge.rw_rg0222_01.row.prog w) A (.call (.ref 66) ⟨[.ref x, .str what tw, .int step ts], []⟩) R s := by
  have hroom : A.depth < recursionLimit := Nat.lt_of_lt_of_le hA (Nat.le_of_ble_eq_true rfl)
  k_dflt (refine' enterS (binds := [(Str.ofString "self", .ref x), (Str.ofString "what", .str what tw), (Str.ofString "step", .int step ts)]) [x] X T.nolimit hB (by simpa using hxB) ?k6 ?k7 ?k8 ?k9 ?kB ?_ ?c5 ?c2 ?c3 ?c4; (case k6 => k_is); (case k7 => k_is); (case k8 => exact hroom); (case k9 => exact BindsTo.of_eq rfl); (case c5 => decide); (case kB => exact locs rfl); (case c2 => exact rfl); (case c3 => exact rfl); (case c4 => exact rfl))
  intro g L h₁ hg hL F hk₁ sg Xg
  have Tg := T.keeps sg
  have N : News g L h₁ [(x, (⟨.ref 76, none, .fields #[.ref t0, .none, .none, .none, .bool false, .none], #[]⟩ : Obj))] := by
    intro p hp
    rw [List.mem_singleton.mp hp]
    exact ⟨hk₁ _ _ hx, hL ▸ Nat.ne_of_lt (Heap.lt_size hx), hg ▸ hideAll_none _ (.head _)⟩
  have hx76 : x ≠ 76 := fun e => by
    obtain ⟨_, _, _, _, _, _, _, _, _, _, hC⟩ := exc_cls X
    rw [← e, hxB] at hC
    cases hC
  refine ks_wpAt_execs_cons ?_
  refine ks_wpAt_Expr_any ?_
  refine ks_wpAt_MethodCall ?_
  k_dflt (refine ks_node (by k_asm) (by k_asm) (by k_asm) (by k_asm) (by k_is) (by rfl) (by rfl) (by k_inst) (by k_is) (by rfl) (by first | rfl | decide +kernel) (by k_is) (by k_is) (by k_is) (by k_is) (by decide) (by rfl) (by rfl) (by rfl) (by rfl) (by decide +kernel) (by first | boot_by_name | rfl | kernel_rfl) ?_)
  intro so' h' F' N' l1
  k_steps
  rename Fr _ _ _ _ => F2
  rename News _ _ _ _ => N2
  have e4 := N2 _ (.tail _ (.tail _ (.head _)))
  have kH := Keep.of_base hg F2.keep
  rename Heap => h'
  refine call_meth N2 (.head _) (smt_init_c Xg Tg (by exact F2.keep) e4.1 e4.2.2 (by show A.depth + 1 < 900; omega) fun h5 tk5 d5 t5 k5 fa5 fd5 ft5 I5 => ?_)
  have F5 := fr_call F2 k5 (fun q => e4.2.1 (List.mem_singleton.mp q).symm) (fun a m => by rw [List.mem_singleton.mp m]; exact e4.2.2)
  have N5 : News g L h5 [] := News.nil
  clear F2 N2
  dsimp only
  k_steps
  have ht : findIn (Mine.hd.heap_39 w.params) (.ref 76) (Str.ofString "step") = some none := by k_is
  refine exc_set (ns := [Str.ofString "what"]) (Xg.keeps F5.keep) I5 ht (fun h6 tk6 I6 k6 m6 => ?_) (fun y hy => ?_) (by simp)
  · obtain ⟨o₁, ho₁, c1, c2, c3, c4⟩ := m6 _ fa5
    obtain ⟨o₂, ho₂, _, _, ⟨_, hm⟩ | ⟨dx, hdx, _, _⟩⟩ := id I6
    · exact absurd (hm (Str.ofString "step")) (by simp)
    rw [ho₁] at ho₂
    cases ho₂
    have frH : ∀ b, b ≠ x → h'.get? b = none → s.heap.get? b = none := fun b n e => by
      cases q : s.heap.get? b with
      | none => rfl
      | some o => rw [kH b o (fun m => n (List.mem_singleton.mp m)) q] at e; cases e
    have hd5 : s.heap.get? d5 = none := frH d5 (fun q => by rw [q, e4.1] at fd5; cases fd5) fd5
    k_steps
    refine hret h6 _ dx t5 (fun b o n e => ?_) ?_ ?_ ?_
    · have n' : b ≠ x := fun q => n (q ▸ .head _)
      refine k6 b o n' (fun o₀ d' e1 e2 q => ?_) (k5 b o n (kH b o n e))
      rw [fa5] at e1
      cases e1
      cases e2
      rw [q, hd5] at e
      cases e
    · obtain ⟨a1, a2, a3, a4⟩ := o₁
      dsimp only at c1 c2 c3 hdx
      subst c1 c2 c3 hdx
      exact ho₁
    · rcases c4 dx hdx with q | q
      · cases q
        exact hd5
      · have hne : dx ≠ x := fun e => by rw [e, fa5] at q; cases q
        refine frH dx hne ?_
        cases q2 : h'.get? dx with
        | none => rfl
        | some o => rw [k5 _ _ (fun m => hne (List.mem_singleton.mp m)) q2] at q; cases q
    · exact frH _ (fun q => by rw [q, e4.1] at ft5; cases ft5) ft5
  · by_cases q : y = Str.ofString "what"
    · rw [q]; exact .head _
    · rw [if_neg q] at hy; exact absurd rfl hy

theorem fault_c {A : Around} (X : (Mine.hd.heap_39 w.params).In B) (T : Tp mean mg mb B) (hB : B.StaysIn s.heap) {what : Str} {tw ts : Tok} {step : Int} (hA : A.depth < 700)
    (hret : ∀ h' tk x d t, Keep [] s.heap h' → FaultAt h' x (some d) t → s.heap.get? x = none → s.heap.get? t = none → Q (.ref x) { s with heap := h', toks := tk }) :
    wpAny (model PySem.Challenge.rw_rg0222_01.row.prog w) A (call (.ref 76) [.str what tw, .int step ts]) Q E s := by
  obtain ⟨h, g, d, tk, os⟩ := s
  refine wpAny_call (exc_make (X.keeps hB) (by rw [sizeLine_eq]; simp) ?_)
  generalize hH : (h.push { cls := .type "tuple", data := .seq (List.toArray [.str what tw, .int step ts]) }).push { cls := .ref 76, data := .fields #[.ref h.objs.size, .none, .none, .none, .bool false, .none] } = H
  have k : ∀ b o, h.get? b = some o → H.get? b = some o := fun b o e => hH ▸ Heap.get?_push_of_some _ (Heap.get?_push_of_some _ e)
  have hx : FaultAt H (h.objs.size + 1) none h.objs.size := by rw [← hH]; show Heap.get? _ _ = _; heap_get
  have hxn : h.get? (h.objs.size + 1) = none := Heap.get?_none_of_le (Nat.le_succ _)
  refine fault_init_c (B := B) (s := ⟨H, g, d, tk, os⟩) X T (fun b o e => k _ _ (hB b o e)) hx (fresh_keep (fun b o e => hB b o e) hxn) (by simp only [depth_under_make]; omega) fun h' tk' d' t' k' f' fd' ft' => ?_
  refine ⟨rfl, hret h' tk' _ d' t' (fun b o _ e => ?_) f' hxn (fresh_keep k ft')⟩
  exact k' b o (fun m => by rw [List.mem_singleton.mp m] at e; have e' : h.get? (h.objs.size + 1) = some o := e; rw [hxn] at e'; cases e') (k b o e)
end
end SExc2
section SRaise

section
variable {w : World} {A : Around} {E : Value → Shared → Prop} {s : Shared} {env : Env}
theorem raiseStmt_fault {x : Sem Value} {Q : Flow → Shared → Prop} (hh : A.handled = none)
    (h : wpAny (model prog1 w) A x (fun v s₁ => ∃ e d t, v = .ref e ∧ (Mine.hd.heap_39 w.params).In s₁.heap ∧ FaultAt s₁.heap e (some d) t ∧ E (.ref e) s₁) E s) :
    wpAny (model prog1 w) A (raiseStmt env (some x) none) Q E s := by
  have hcB : (Value.ref 76 :: excTail).contains (.type "BaseException") = true := by decide
  unfold raiseStmt
  refine wpAny_bind (wpAny_mono h (fun v s₁ h₁ => ?_) fun _ _ x => x)
  obtain ⟨e, d', t, rfl, X, he, hE⟩ := h₁
  obtain ⟨hp, g, d, tk, os⟩ := s₁
  obtain ⟨nm, q, bs, sub, k0, k1, k2, k3, k5, dd, hC⟩ := exc_cls X
  unfold FaultAt at he
  repeat (first | with_reducible refine wpAny_loadPart_at he ?_ | with_reducible refine wpAny_loadPart_at hC ?_ | (with_reducible refine wpAny_isSubtype_exc hC ?_; rw [hcB]) | wp_step)
  exact wpAny_raiseNew_none hh hE
theorem callWith_fault {cpos : Pos} {args : List (Bool × Sem Value)} {Q : Value → Shared → Prop} (hplain : args.any (·.1) = false)
    (h : wpAny (model prog1 w) A (evalArgs (.ref 76) true args []) (fun a s₂ => (Mine.hd.heap_39 w.params).In s₂.heap ∧ wpAny (model prog1 w) A (call (.ref 76) a.pos a.kw) Q E s₂) E s) :
    wpAny (model prog1 w) A (callWith cpos (.ref 76) [] args []) Q E s := by
  unfold callWith
  refine wpAny_bind (wpAny_holding (wpAny_mono h (fun a s₂ h₂ => wpAny_bind (wpAny_standAt ?_)) fun _ _ x => x))
  obtain ⟨X, h₂⟩ := h₂
  obtain ⟨hp, g, d, tk, os⟩ := s₂
  obtain ⟨nm, q, bs, sub, k0, k1, k2, k3, k5, dd, hC⟩ := exc_cls X
  simp only [hplain, List.any_nil, Bool.or_false]
  refine wpAny_bind (wpAny_keeperOf_exc hC ?_)
  exact wpAny_bind (wpAny_mono h₂ (fun r s₃ hr => wpAny_bind (wpAny_holding (wpAny_point (wpAny_pure hr)))) fun _ _ x => x)
/-- the fault's call, its arguments known -/
def FaultCall (w : World) (A : Around) (E : Value → Shared → Prop) (vs : List Value) (s₂ : Shared) : Prop :=
  (Mine.hd.heap_39 w.params).In s₂.heap ∧ wpAny (model prog1 w) A (call (.ref 76) vs) (fun v s₃ => ∃ e d t, v = .ref e ∧ (Mine.hd.heap_39 w.params).In s₃.heap ∧ FaultAt s₃.heap e (some d) t ∧ E (.ref e) s₃) E s₂
theorem raise_fault {x : Str} {np cpos pos : Pos} {e₁ : Expr} {rest : List Expr} {Q : Flow → Shared → Prop} (hh : A.handled = none)
    (h : wpAny (model prog1 w) A (eval (.Name x np) env) (fun f s₁ => f = .ref 76 ∧ wpAny (model prog1 w) A (spliced (backTo cpos (starEach (e₁ :: rest) env))) (FaultCall w A E) E s₁) E s)
    (he : starEach (e₁ :: rest) env = (false, eval e₁ env) :: starEach rest env := by rfl) (hplain : (backTo cpos (starEach rest env)).any (·.1) = false := by rfl) :
    wpAny (model prog1 w) A (exec (.Raise (some (.Call (.Name x np) (e₁ :: rest) [] cpos)) none pos) env) Q E s := by
  rw [arm_exec_Raise]
  refine wpAny_bind (wpAny_standAt (raiseStmt_fault hh ?_))
  refine wpAny_bind (wpAny_mono (wpAny_Call_ofName (wpAny_mono h (fun f s₁ h₁ => ?_) fun _ _ x => x)) (fun v s₃ h₃ => wpAny_bind (wpAny_standAt (wpAny_pure h₃))) fun _ _ x => x)
  obtain ⟨rfl, h₁⟩ := h₁
  rw [he] at h₁ ⊢
  exact callWith_fault (by show (false || (backTo cpos (starEach rest env)).any (·.1)) = false; rw [hplain]; rfl) (evalArgs_plain h₁)
end

def Frs (outer : List Env) : List Addr := outer.filterMap (·.frame)
/-- how a raise leaves the heap -/
structure RaisedC (h : Heap) (W : List Addr) (outer : List Env) (e : Addr) (h' : Heap) : Prop where
  fly : ∃ t, Heap.FlyingW (hideAll h (W ++ Frs outer)) outer e (.ref 76) (.ref t) h'
  slots : ∀ a ∈ Frs outer, ∀ o, h.get? a = some o → ∃ sl, h'.get? a = some { o with slots := sl }
def FrsOk (h : Heap) (outer : List Env) : Prop := h.FunFrames (hideAll h (Frs outer)) outer
theorem ff_rebase {h b b' : Heap} : ∀ {l : List Env}, h.FunFrames b l → (∀ a ∈ Frs l, b'.get? a = none) → h.FunFrames b' l
  | [], _, _ => trivial
  | env :: l, ⟨hk, ⟨L, o, hf, _, ho, hd⟩, hr⟩, hn => ⟨hk, ⟨L, o, hf, hn L (List.mem_filterMap.mpr ⟨env, .head _, hf⟩), ho, hd⟩, ff_rebase hr fun a ha => by
      obtain ⟨x, hx, e⟩ := List.mem_filterMap.mp ha
      exact hn a (List.mem_filterMap.mpr ⟨x, .tail _ hx, e⟩)⟩
theorem ff_keep {h h' b : Heap} : ∀ {l : List Env}, h.FunFrames b l → (∀ a ∈ Frs l, ∀ o, h.get? a = some o → h'.get? a = some o) → h'.FunFrames b l
  | [], _, _ => trivial
  | env :: l, ⟨hk, ⟨L, o, hf, hb, ho, hd⟩, hr⟩, hn => ⟨hk, ⟨L, o, hf, hb, hn L (List.mem_filterMap.mpr ⟨env, .head _, hf⟩) o ho, hd⟩, ff_keep hr fun a ha => by
      obtain ⟨x, hx, e⟩ := List.mem_filterMap.mp ha
      exact hn a (List.mem_filterMap.mpr ⟨x, .tail _ hx, e⟩)⟩
theorem ff_obj {h b : Heap} {l : List Env} (H : h.FunFrames b l) {a : Addr} (ha : a ∈ Frs l) : ∃ o, h.get? a = some o ∧ ∀ vs, o.data ≠ .fields vs := (H.mem ha).2
theorem ff_push {h : Heap} {env : Env} {outer : List Env} {L : Addr} {m : Str → Option Value} (FO : FrsOk h outer) (hk : env.scope.kind ≠ .module) (hf : env.frame = some L) {h' : Heap} (hn : h'.Ns L m) (k : ∀ a ∈ Frs outer, ∀ o, h.get? a = some o → h'.get? a = some o) : FrsOk h' (env :: outer) := by
  have hL : L ∈ Frs (env :: outer) := List.mem_filterMap.mpr ⟨env, .head _, hf⟩
  obtain ⟨o, es, ep, ho, hd, _⟩ := hn
  refine ⟨hk, ⟨L, o, hf, hideAll_none _ hL, ho, fun vs q => by rw [hd] at q; cases q⟩, ff_rebase (ff_keep FO k) fun a ha => hideAll_none _ ?_⟩
  obtain ⟨x, hx, e⟩ := List.mem_filterMap.mp ha
  exact List.mem_filterMap.mpr ⟨x, .tail _ hx, e⟩

section
variable {M : Model} {A : Around} {s0 s : Shared} {env : Env} {outer : List Env} {L e t : Addr} {dx : Option Addr} {g H : Heap} {m : Str → Option Value} {W Wr : List Addr} {Q : Unit → Shared → Prop} {E : Value → Shared → Prop}
/-- the frame in which the fault was raised is left -/
theorem leave_first (hfr : A.frames = some (env :: outer)) (hf : env.frame = some L) (hk' : env.scope.kind = .function) (FO : FrsOk s0.heap outer) (k0 : ∀ b o, b ∉ W → s0.heap.get? b = some o → H.get? b = some o) (hL : s0.heap.get? L = none) (hW : ∀ a ∈ Frs outer, a ∉ W)
    (hn : H.Ns L m) (kH : Keep [] H s.heap) (fa : FaultAt s.heap e dx t) (fe : H.get? e = none)
    (h : ∀ h', RaisedC s0.heap W outer e h' → Keep (L :: Frs outer) H h' → Q () { s with heap := h' }) : wpAny M A (leaving env (.ref e)) Q E s := by
  have hk : env.scope.kind ≠ .module := by rw [hk']; decide
  have hn' : s.heap.Ns L m := let ⟨o, es, ep, e, r⟩ := hn; ⟨o, es, ep, kH.all _ _ e, r⟩
  have FOp := ff_push (env := env) FO hk hf hn' (fun a ha o q => kH.all a o (k0 a o (hW a ha) q))
  have hfrs : Frs (env :: outer) = L :: Frs outer := by unfold Frs; rw [List.filterMap_cons, hf]
  have base_st : (hideAll H (L :: Frs outer)).StaysIn s.heap := fun b o q => kH.all b o (of_hideAll _ q)
  have hl : s.heap.FunFrames (hideAll H (L :: Frs outer)) (env :: outer) := ff_rebase FOp fun a ha => hideAll_none _ (hfrs ▸ ha)
  have hen : (hideAll H (L :: Frs outer)).get? e = none := by
    cases q : (hideAll H (L :: Frs outer)).get? e with
    | none => rfl
    | some o => have := of_hideAll _ q; rw [fe] at this; cases this
  refine wpAny_leaving_firstW (base := hideAll H (L :: Frs outer)) (a0 := .ref t) hfr hl hf fa base_st hen rfl rfl rfl fun h' ⟨l1, l2, l3, l4⟩ => ?_
  have st : (hideAll s0.heap (W ++ Frs outer)).StaysIn (hideAll H (L :: Frs outer)) := fun b o q => by
    have q0 := of_hideAll _ q
    have nb : b ∉ W ++ Frs outer := fun mm => by rw [hideAll_none _ mm] at q; cases q
    refine hideAll_get _ (k0 b o (fun z => nb (List.mem_append_left _ z)) q0) fun mm => ?_
    rcases List.mem_cons.mp mm with rfl | mm
    · rw [hL] at q0; cases q0
    · exact nb (List.mem_append_right _ mm)
  refine h h' ⟨⟨t, fun b o q => l1 b o (st b o q), fresh_of_stays st hen, ff_rebase l2.2.2 fun a ha => hideAll_none _ (List.mem_append_right _ ha), ?_⟩, fun a ha o q => ?_⟩ fun b o n q => l1 b o (hideAll_get _ q n)
  · obtain ⟨oe, vs, T, oT, ts, a1, a2, a3, a4, a5, a6⟩ := l3
    exact ⟨oe, vs, T, oT, ts, a1, a2, a3, a4, fresh_of_stays st a5, a6⟩
  · obtain ⟨o', ho', hd⟩ := ff_obj FO ha
    rw [q] at ho'
    cases ho'
    exact l4 a o (kH.all a o (k0 a o (hW a ha) q)) hd
/-- a frame through which the fault flies is left -/
theorem leave_next (hfr : A.frames = some (env :: outer)) (hf : env.frame = some L) (FO : FrsOk s0.heap outer) (k0 : ∀ b o, b ∉ W → s0.heap.get? b = some o → H.get? b = some o) (hL : s0.heap.get? L = none) (hW : ∀ a ∈ Frs outer, a ∉ W)
    (hn : H.Ns L m) (R : RaisedC H Wr (env :: outer) e s.heap) (hWr : ∀ a ∈ Wr, a ∈ W ∨ s0.heap.get? a = none)
    (h : ∀ h', RaisedC s0.heap W outer e h' → (∀ b o, b ∉ Wr → b ≠ L → b ∉ Frs outer → H.get? b = some o → h'.get? b = some o) → Q () { s with heap := h' }) : wpAny M A (leaving env (.ref e)) Q E s := by
  obtain ⟨⟨t, fly⟩, slots⟩ := R
  have hfrs : Frs (env :: outer) = L :: Frs outer := by unfold Frs; rw [List.filterMap_cons, hf]
  refine wpAny_leaves_onW hfr hf fly fun h' f' u' => ?_
  have st : (hideAll s0.heap (W ++ Frs outer)).StaysIn (hideAll H (Wr ++ Frs (env :: outer))) := fun b o q => by
    have q0 := of_hideAll _ q
    have nb : b ∉ W ++ Frs outer := fun mm => by rw [hideAll_none _ mm] at q; cases q
    refine hideAll_get _ (k0 b o (fun z => nb (List.mem_append_left _ z)) q0) fun mm => ?_
    rcases List.mem_append.mp mm with mm | mm
    · rcases hWr b mm with z | z
      · exact nb (List.mem_append_left _ z)
      · rw [q0] at z; cases z
    · rw [hfrs] at mm
      rcases List.mem_cons.mp mm with rfl | mm
      · rw [hL] at q0; cases q0
      · exact nb (List.mem_append_right _ mm)
  obtain ⟨f1, f2, f3, f4⟩ := f'
  refine h h' ⟨⟨t, fun b o q => f1 b o (st b o q), fresh_of_stays st f2, ff_rebase f3 fun a ha => hideAll_none _ (List.mem_append_right _ ha), ?_⟩, fun a ha o q => ?_⟩ fun b o n1 n2 n3 q => f1 b o (hideAll_get _ q fun mm => ?_)
  · obtain ⟨oe, vs, T, oT, ts, a1, a2, a3, a4, a5, a6⟩ := f4
    exact ⟨oe, vs, T, oT, ts, a1, a2, a3, a4, fresh_of_stays st a5, a6⟩
  · obtain ⟨o', ho', hd⟩ := ff_obj FO ha
    rw [q] at ho'
    cases ho'
    obtain ⟨sl, hs⟩ := slots a (by rw [hfrs]; exact .tail _ ha) o (k0 a o (hW a ha) q)
    obtain ⟨sl', hs'⟩ := u' a _ hs hd
    exact ⟨sl', hs'⟩
  · rcases List.mem_append.mp mm with mm | mm
    · exact n1 mm
    · rw [hfrs] at mm
      rcases List.mem_cons.mp mm with z | z
      · exact n2 z
      · exact n3 z
end

theorem fault_call {w : World} {mean : ExcName → Option Value} {mg mb : Str → Option Value} {B : Heap} {A : Around} {E : Value → Shared → Prop} {s : Shared} (X : (Mine.hd.heap_39 w.params).In B) (T : Tp mean mg mb B) (hB : B.StaysIn s.heap) {what : Str} {tw ts : Tok} {step : Int} (hA : A.depth < 700)
    (h : ∀ h' tk e d t, Keep [] s.heap h' → FaultAt h' e (some d) t → s.heap.get? e = none → E (.ref e) { s with heap := h', toks := tk }) : FaultCall w A E [.str what tw, .int step ts] s :=
  ⟨X.keeps hB, fault_c X T hB hA fun h' tk x d t k f fx _ => ⟨x, d, t, rfl, X.keeps fun b o e => k b o (fun m => nomatch m) (hB b o e), f, h h' tk x d t k f fx⟩⟩
end SRaise
section SRes2

section
variable {w : World} {mean : ExcName → Option Value} {mg mb : Str → Option Value} {B : Heap} {s : Shared} {Q E : Value → Shared → Prop}
theorem word14 : True := by
  k_with "compareOp In int ref" => (k_here; k_dflt (first | refine in_yes (by k_asm) (by assumption) (by assumption) (by assumption) ?_ | refine in_no (by k_asm) (by assumption) (by assumption) (by assumption) ?_))
  k_with "exec Raise some none" => (k_here; k_dflt (refine' raise_fault ?k1 ?_; (case k1 => first | assumption | rfl); k_whole))
  k_with "formatField int" => (k_here; k_dflt (refine' wpAny_formatField_int ?k1 ?_; (case k1 => assumption); k_whole))
  trivial
theorem resolve_raise {A : Around} {outer : List Env} (X : (Mine.hd.heap_39 w.params).In B) (T : Tp mean mg mb B) (hB : B.StaysIn s.heap) (hfr : A.frames = some outer) (hA : A.depth < 600) (hh : A.handled = none) (FO : FrsOk s.heap outer)
    {a b : Addr} {xs ys : List Int} {v : Int} {tv : Tok} (ha : TupInts s.heap a xs) (hb : TupInts s.heap b ys) (tx : Tid xs) (hv : 1 ≤ v ∧ v ≤ 5)
    (hcl : ¬ ((v ∈ xs ∧ -v ∈ ys) ∨ (-v ∈ xs ∧ v ∈ ys)))
    (hret : ∀ h' tk e, RaisedC s.heap [] outer e h' → E (.ref e) { s with heap := h', toks := tk }) :
    wpAny (model PySem.Challenge.rw_rg0222_01.row.prog w) A (call (.ref 582) [.ref a, .ref b, .int v tv]) Q E s := by
  have hroom : A.depth < recursionLimit := Nat.lt_of_lt_of_le hA (Nat.le_of_ble_eq_true rfl)
  refine wpAny_call ?_
  k_dflt (refine' enterC (binds := [(Str.ofString "one", .ref a), (Str.ofString "other", .ref b), (Str.ofString "variable", .int v tv)]) [] X T.nolimit hB (by simp) ?k6 ?k7 ?k8 ?k9 ?kB ?kC ?_ ?c2 ?c3 ?c4; (case k6 => k_is); (case k7 => k_is); (case k8 => exact hroom); (case k9 => exact BindsTo.of_eq rfl); (case kB => exact rfl); (case kC => decide); (case c2 => exact rfl); (case c3 => exact rfl); (case c4 => exact rfl))
  intro g L h₁ tk₁ cells hg hL F N Y hk₁ sg Xg
  have Tg := T.keeps sg
  k_cells Y
  obtain ⟨vx, ix, hx⟩ := ha
  obtain ⟨vy, iy, hy⟩ := hb
  have hxg : IsTup g a vx.toArray := by
    obtain ⟨o, ho, r⟩ := hx
    exact ⟨o, hide1 hg ho (by simp), r⟩
  have hyg : IsTup g b vy.toArray := by
    obtain ⟨o, ho, r⟩ := hy
    exact ⟨o, hide1 hg ho (by simp), r⟩
  refine wpAny_mono ?_ (fun _ _ h => h) (fun _ _ h => h)
  k_fold
  have hlog : v.natAbs.log2 < 1920 := by
    have : v = 1 ∨ v = 2 ∨ v = 3 ∨ v = 4 ∨ v = 5 := by omega
    rcases this with rfl | rfl | rfl | rfl | rfl <;> decide
  have ox := @Tid.opp xs tx
  by_cases c1 : v ∈ xs
  · have n1 : -v ∉ xs := ox c1
    have n2 : -v ∉ ys := fun q => hcl (.inl ⟨c1, q⟩)
    k_steps
    rename Fr _ _ _ _ => F2
    refine fault_call Xg Tg (by exact F2.keep) (by show A.depth + 1 < 700; omega) fun h' tk e d t k f fe => ?_
    show wpAny _ _ (leaving _ (.ref e)) _ _ _
    exact leave_first (s0 := s) (W := []) (Around.frames_deeper hfr) rfl rfl FO (fun b o _ e => F2.keep b o (hg ▸ hideAll_get _ e (fun m => nomatch m))) (hL ▸ Heap.get?_none_of_le (Nat.le_refl _)) (fun _ _ m => nomatch m) F2.ns k f fe fun h'' R _ => hret h'' _ e R
  · by_cases c2 : -v ∈ xs
    · have n2 : v ∉ ys := fun q => hcl (.inr ⟨c2, q⟩)
      k_steps
      rename Fr _ _ _ _ => F2
      refine fault_call Xg Tg (by exact F2.keep) (by show A.depth + 1 < 700; omega) fun h' tk e d t k f fe => ?_
      show wpAny _ _ (leaving _ (.ref e)) _ _ _
      exact leave_first (s0 := s) (W := []) (Around.frames_deeper hfr) rfl rfl FO (fun b o _ e => F2.keep b o (hg ▸ hideAll_get _ e (fun m => nomatch m))) (hL ▸ Heap.get?_none_of_le (Nat.le_refl _)) (fun _ _ m => nomatch m) F2.ns k f fe fun h'' R _ => hret h'' _ e R
    · k_steps
      rename Fr _ _ _ _ => F2
      refine fault_call Xg Tg (by exact F2.keep) (by show A.depth + 1 < 700; omega) fun h' tk e d t k f fe => ?_
      show wpAny _ _ (leaving _ (.ref e)) _ _ _
      exact leave_first (s0 := s) (W := []) (Around.frames_deeper hfr) rfl rfl FO (fun b o _ e => F2.keep b o (hg ▸ hideAll_get _ e (fun m => nomatch m))) (hL ▸ Heap.get?_none_of_le (Nat.le_refl _)) (fun _ _ m => nomatch m) F2.ns k f fe fun h'' R _ => hret h'' _ e R
end
end SRes2
section SPairs

inductive PairIs (g : Heap) (vs : List Value) (i : Nat) (p : Int × Int) : Prop
  | mk (q : Addr) (t u : Tok) : vs[i]? = some (.ref q) → IsTup g q (List.toArray [.int p.1 t, .int p.2 u]) → PairIs g vs i p
/-- the items of a list of pairs of ints -/
def PairsV (g : Heap) (vs : List Value) (ps : List (Int × Int)) : Prop :=
  vs.length = ps.length ∧ ∀ (i : Nat) p, ps[i]? = some p → PairIs g vs i p
inductive PairsAt (g : Heap) (pa : Addr) (ps : List (Int × Int)) : Prop
  | mk : ∀ (vs), g.IsList pa vs.toArray → PairsV g vs ps → PairsAt g pa ps
section
variable {prog : Program} {w : World} {A : Around} {E : Value → Shared → Prop} {s : Shared} {env : Env} {g : Heap}
/-- the end of a turn over pairs -/
def JEnd2 (g : Heap) (L I : Addr) (oI : Obj) (s : Shared) (J : (Str → Option Value) → List (Addr × Obj) → Prop) (Q : Flow → Shared → Prop) (f : Flow) (s₂ : Shared) : Prop :=
  match f with
        | .ret v => Q (.ret v) s₂
        | .brk => Q .next s₂
        | _ => LoopB g L I oI (Shared.up s) J s₂
theorem iter_pairs {x y : Str} {px py tpos : Pos} {k : Nat} {body : List Stmt} {Q : Flow → Shared → Prop} {pa : Addr} {vs : List Value} {ps : List (Int × Int)} {m : Str → Option Value} {news : List (Addr × Obj)} (J : Nat → (Str → Option Value) → List (Addr × Obj) → Prop)
    (hh : A.handled = none) (hx : env.kindOf x = some .local) (hy : env.kindOf y = some .local) (hp : (env.scope.kind == .class || (env.scope.kind == .module && env.locals != env.globals)) = false)
    (hl : g.IsList pa vs.toArray) (pv : PairsV g vs ps) (F : Fr g env.locals s.heap m) (N : News g env.locals s.heap news) (hJ : J 0 m news)
    (turn : ∀ I (i : Nat) p t u m₁ news₁ h tk oI, ps[i]? = some p → J i m₁ news₁ → (∀ q ∈ news₁, q.1 ≠ I) → Fr g env.locals h (fun z => if z = y then some (.int p.2 u) else if z = x then some (.int p.1 t) else m₁ z) → News g env.locals h ((I, oI) :: news₁) →
      wpAny (model prog w) A (execs body env) (JEnd2 g env.locals I oI s (J (i + 1)) Q) E { s with heap := h, toks := tk })
    (done : ∀ h tk m₁ news₁, Fr g env.locals h m₁ → News g env.locals h news₁ → J ps.length m₁ news₁ → Q .next { s with heap := h, toks := tk }) :
    wpAny (model prog w) A (pyIter (.ref pa)) (fun it s₂ => TurnsAt prog w A g env (.Tuple [.Name x px, .Name y py] k tpos) body Q E it s₂) E s := by
  have hts : s.heap.IsList pa vs.toArray := by
    obtain ⟨o, ho, r⟩ := hl
    exact ⟨o, F.keep _ _ ho, r⟩
  obtain ⟨oa, hoa, _⟩ := id hl
  have hlt : pa < s.heap.objs.size := Heap.lt_size (F.keep _ _ hoa)
  have hgI : g.get? s.heap.objs.size = none := by
    cases q : g.get? s.heap.objs.size with
    | none => rfl
    | some o => exact absurd (Heap.lt_size (F.keep _ _ q)) (Nat.lt_irrefl _)
  refine wpAny_pyIter_list hts ?_
  have W := KTurns.ofWalks (target := .Tuple [.Name x px, .Name y py] k tpos) (Walks.list (prog := prog) (w := w) hh s.heap.objs.size pa (Nat.ne_of_lt hlt) vs.toArray) (fun i v s Q E st h => by
    cases v with
    | ref T => exact wpAny_letOwnedTupleGo_listiter st.1 h
    | _ => unfold letOwnedTupleGo; exact wpAny_pure h)
  refine ⟨_, _, _, _, _, _, _, m, news, J, rfl, W, ?_, ?_, ?_, ⟨⟨_, Heap.get?_push_size _ rfl, rfl, rfl⟩, hts.at fun o e => Heap.get?_push_of_some _ e⟩, F.push _, fun p hp => ⟨Heap.get?_push_of_some _ (N p hp).1, (N p hp).2⟩, hJ, ?_, ?_⟩
  · intro hm
    rcases List.mem_cons.mp hm with e | hm
    · exact absurd F.ns.lt (by rw [e]; exact Nat.lt_irrefl _)
    · rw [List.mem_singleton.mp hm] at F
      have := F.above
      exact absurd (Heap.lt_size hoa) (Nat.not_lt.mpr this)
  · intro b hb
    rw [List.mem_singleton.mp hb]
    exact hgI
  · intro p hp hm
    have := Heap.lt_size (N p hp).1
    rw [show p.1 = s.heap.objs.size from List.mem_singleton.mp hm] at this
    exact absurd this (Nat.lt_irrefl _)
  · intro i v m₁ news₁ h₁ tk₁ own hi hP hJ₁ ha₁ hown hown2 hown3 st F₁ N₁
    have hi' : i < vs.length := by simpa using hi
    have hv : vs[i]? = some v := by simpa using hP
    obtain ⟨p, hp'⟩ : ∃ p, ps[i]? = some p := ⟨_, List.getElem?_eq_getElem (pv.1 ▸ hi')⟩
    obtain ⟨q, t, u, e, ht⟩ := pv.2 i p hp'
    rw [hv] at e
    cases e
    obtain ⟨oI, hoI, _⟩ := st.1
    have hIo : (s.heap.objs.size, oI) ∈ own := hown3 _ (.head _) hgI _ hoI
    refine wpAny_assign_Tuple (items := List.toArray [.int p.1 t, .int p.2 u]) hh (F₁.tup ht) rfl rfl fun h₂ x₂ => ?_
    have k₂ : ∀ b o, h₁.get? b = some o → h₂.get? b = some o := fun b o e => x₂ b o (Nat.ne_of_lt (Heap.lt_size e)) e
    have F₂ := F₁.kept k₂
    have N₂ := N₁.grown k₂
    refine assignInOrder_cons ?_
    show wpAny _ A (assign (.Name x px) env _) _ _ _
    refine wpAny_assign_Name (wpAny_storeName_local hx F₂.ns (fun h₃ hn₃ hs₃ => ?_) hp)
    have F₃ := F₂.set hn₃ hs₃
    have N₃ := N₂.set hs₃
    refine assignInOrder_cons ?_
    show wpAny _ A (assign (.Name y py) env _) _ _ _
    refine wpAny_assign_Name (wpAny_storeName_local hy F₃.ns (fun h₄ hn₄ hs₄ => ?_) hp)
    have F₄ := F₃.set hn₄ hs₄
    have N₄ := N₃.set hs₄
    refine assignInOrder_nil ?_
    have ha : ∀ q ∈ news₁, q.1 ≠ s.heap.objs.size := fun q hq e => ha₁ q hq (by rw [e]; exact .head _)
    refine wpAny_mono (turn s.heap.objs.size i p t u m₁ news₁ h₄ _ oI hp' hJ₁ ha F₄ (fun q hq => ?_)) (fun f s₂ z => ?_) fun _ _ z => z
    · rcases List.mem_cons.mp hq with rfl | hq
      · exact N₄ _ (List.mem_append_left _ hIo)
      · exact N₄ _ (List.mem_append_right _ hq)
    · have fin : LoopB g env.locals s.heap.objs.size oI (Shared.up s) (J (i + 1)) s₂ → ∀ f, (f = .next ∨ f = .cont) →
          LoopStepV g env.locals [s.heap.objs.size] own (J (i + 1)) { s with heap := h₁, toks := tk₁ } (fun v s' => Q (.ret v) s') (fun s' => Q .next s') f s₂ := by
        rintro ⟨h', tk', m₂, news₂, rfl, F', N', hn', hJ'⟩ f hf
        have body : LoopStepU g env.locals [s.heap.objs.size] own (J (i + 1)) { s with heap := h₁, toks := tk₁ } .next { s with heap := h', toks := tk' } := by
          refine ⟨rfl, h', tk', m₂, news₂, rfl, F', fun q hq => ?_, fun q hq e => hn' q hq (List.mem_singleton.mp e), hJ'⟩
          rcases List.mem_append.mp hq with hq | hq
          · have hqf := hown q hq
            rcases List.mem_cons.mp hqf with e | hqf
            · have e2 := hown2 q hq
              rw [e, hoI] at e2
              have : q = (s.heap.objs.size, oI) := Prod.ext e (Option.some.inj e2).symm
              rw [this]
              exact N' _ (.head _)
            · have := (N₁ q (List.mem_append_left _ hq)).2.2
              rw [List.mem_singleton.mp hqf, hoa] at this
              cases this
          · exact N' _ (.tail _ hq)
        rcases hf with rfl | rfl <;> exact body
      cases f with
      | ret v => exact z
      | brk => exact z
      | next => exact fin z _ (.inl rfl)
      | cont => exact fin z _ (.inr rfl)
  · intro h' tk m' news' F' N' ha hJ'
    exact done h' tk m' news' F' N' (by simpa [pv.1] using hJ')
end

section
variable {prog : Program} {w : World} {A : Around} {E : Value → Shared → Prop} {s : Shared} {env : Env} {g : Heap}
def PTurn (prog : Program) (w : World) (A : Around) (env : Env) (scope : Scope) (cl : List (Str × Addr)) (x x₂ : Str) (elt : Expr) (g : Heap) (s : Shared) (m : Str → Option Value) (news : List (Addr × Obj)) (ps : List (Int × Int)) (f : Int × Int → Int) : Prop :=
  ∀ p t u C oC m₂ h tk, p ∈ ps → LCg.NsObj oC m₂ → m₂ x = some (.int p.1 t) → m₂ x₂ = some (.int p.2 u) → Fr g env.locals h m → News g env.locals h ((C, oC) :: news) → (∀ q ∈ news, q.1 ≠ C) →
      wpAny (model prog w) A (eval elt (compEnvC scope cl C env)) (PElt s h true (f p)) (fun _ _ => False) { s with heap := h, toks := tk }
inductive PairW (s₂ : Shared) (I pa : Addr) (C len : Nat) (J : Nat → List Value → Prop) (n : Nat) (s' : Shared) : Prop
  | mk (h' : Heap) (tk' : Nat) (m' : Str → Option Value) (ys : List Value) (i : Nat) : s' = { s₂ with heap := h', toks := tk' } → h'.IsListIter I pa i → h'.Ns C m' → h'.PlainList s₂.heap.objs.size (List.toArray ys) → J i ys → i ≤ len → n = len + 1 - i → (∀ b o, b ≠ I → s₂.heap.get? b = some o → h'.get? b = some o) → PairW s₂ I pa C len J n s'
theorem pairs_block {elt iter : Expr} {x x₂ : Str} {px px₂ tp : Pos} {k : Nat} {scope : Scope} {cl : List (Str × Addr)} {pos : Pos} {s₂ : Shared} {I pa : Addr} {vs : List Value} {ps : List (Int × Int)} {m : Str → Option Value} {news : List (Addr × Obj)} {f : Int × Int → Int}
    (hh : A.handled = none) (hsz : ps.length < 1000) {RR : Value → Addr → Result → Shared → Prop}
    (hcell : ∀ y ∈ scope.names, y.2 ≠ .cell) (hkind : scope.kind = .function) (hx : scope.names.lookup x = some .local) (hx₂ : scope.names.lookup x₂ = some .local) (hxx : x ≠ x₂)
    (hit : s₂.heap.IsListIter I pa 0) (hIL : I ≠ env.locals) (hIg : g.get? I = none) (hIn : ∀ p ∈ news, p.1 ≠ I) (hl : g.IsList pa vs.toArray) (pv : PairsV g vs ps) (F : Fr g env.locals s₂.heap m) (N : News g env.locals s₂.heap news)
    (turn : PTurn prog w A env scope cl x x₂ elt g s₂ m news ps f)
    (hRR : ∀ D C h' tk m' ys, s₂.heap.objs.size ≤ D → s₂.heap.objs.size ≤ C → D ≠ C → h'.Ns C m' → h'.PlainList D (List.toArray ys) → IntsAre ys (ps.map f) →
      (∀ b o, b ≠ I → s₂.heap.get? b = some o → h'.get? b = some o) → RR (.ref D) C (.ok .next) { s₂ with heap := h', toks := tk }) :
    wpAny (model prog w) A (newList []) (fun acc s₃ => wpAny (model prog w) A (newFunctionEnv scope env.globals cl [] env.qual none .none (some env)) (fun cenv s₄ =>
      codeAny (model prog w) A (.compStart (.ListComp elt [⟨.Tuple [.Name x px, .Name x₂ px₂] k tp, iter, [], 0⟩] scope pos) 0 (.ref I) acc { cenv with scope := relabel scope env }) (RR acc cenv.locals) s₄) E s₃) E s₂ := by
  have hlp : ∀ H : Heap, g.StaysIn H → H.IsList pa vs.toArray := fun H k => by
    obtain ⟨o, ho, r⟩ := hl
    exact ⟨o, k _ _ ho, r⟩
  obtain ⟨oa, hoa, _⟩ := id hl
  have hpI : pa ≠ I := fun e => by rw [e, hIg] at hoa; cases hoa
  have hIlt : I < s₂.heap.objs.size := by obtain ⟨_, e, _⟩ := hit; exact Heap.lt_size e
  have W := Walks.list (prog := prog) (w := w) hh I pa hpI vs.toArray
  refine wpAny_newObj_type (wpAny_newFunctionEnv hcell (by intro y hy; simp at hy) (fun h₁ hns₁ hsb₁ => ?_) hkind)
  dsimp only at hns₁ hsb₁ ⊢
  generalize hH2 : s₂.heap.push { cls := .type "list", dict := none, data := .seq ([] : List Value).toArray } = H2 at hns₁ hsb₁ ⊢
  have hC : H2.objs.size = s₂.heap.objs.size + 1 := by rw [← hH2, Heap.size_push]
  have hDC : s₂.heap.objs.size ≠ H2.objs.size := by rw [hC]; exact Nat.ne_of_lt (Nat.lt_succ_self _)
  have hCle : s₂.heap.objs.size ≤ H2.objs.size := by rw [hC]; exact Nat.le_succ _
  have below : ∀ b, b < s₂.heap.objs.size → b ≠ H2.objs.size ∧ b ≠ s₂.heap.objs.size := fun b hb => ⟨by rw [hC]; exact Nat.ne_of_lt (Nat.lt_succ_of_lt hb), Nat.ne_of_lt hb⟩
  have old : ∀ b o, s₂.heap.get? b = some o → h₁.get? b = some o := fun b o e => hsb₁.extBut b o (below b (Heap.lt_size e)).1 (Heap.get?_push_of_some _ (hH2 ▸ Heap.get?_push_of_some _ e))
  have hacc : h₁.PlainList s₂.heap.objs.size #[] := ⟨_, hsb₁.extBut _ _ hDC (Heap.get?_push_of_some _ (hH2 ▸ Heap.get?_push_size _ rfl))⟩
  have hCI : H2.objs.size ≠ I := Ne.symm (below I hIlt).1
  have hDI : s₂.heap.objs.size ≠ I := Ne.symm (below I hIlt).2
  have hst₁ : h₁.IsListIter I pa 0 := hit.at fun o e => old _ o e
  have up1 : ∀ b o, b ∉ [I] → s₂.heap.get? b = some o → h₁.get? b = some o := fun b o _ e => old b o e
  have loop : ∀ s₃ : Shared, s₃ = { s₂ with heap := h₁, toks := s₂.toks + ([] : List (Str × Value)).length } →
      codeAny (model prog w) A (.compLoop (.ListComp elt [⟨.Tuple [.Name x px, .Name x₂ px₂] k tp, iter, [], 0⟩] scope pos) 0 (.ref I) (.ref s₂.heap.objs.size) (compEnvC scope cl H2.objs.size env))
        (RR (.ref s₂.heap.objs.size) H2.objs.size) s₃ := by
    rintro s₃ rfl
    refine LCp.codeAny_compLoop_pair (PairW s₂ I pa H2.objs.size vs.length fun i ys => IntsAre ys ((ps.take i).map f)) ?_ (vs.length + 1)
      ⟨h₁, _, _, [], 0, rfl, hst₁, hns₁, by simpa using hacc, by simpa using IntsAre.nil, Nat.zero_le _, rfl, fun b o _ e => old b o e⟩
    rintro n s' ⟨h', tk', m', ys, i, rfl, hst', hn', hac', hJ', hi, rfl, hk⟩
    have F' : Fr g env.locals h' m := fr_call (W := [I]) F (fun b o nb e => hk b o (fun q => nb (q ▸ .head _)) e) (fun q => hIL (List.mem_singleton.mp q).symm) (fun a ha => by rw [List.mem_singleton.mp ha]; exact hIg)
    by_cases hlt : i < vs.length
    · refine W.item i _ _ _ (by simpa using hlt) ⟨hst', hlp _ F'.keep⟩ fun v h₂ tk₂ hPv hst₂ hk₂ => ?_
      have hv : vs[i]? = some v := by simpa using hPv
      obtain ⟨p, hp'⟩ : ∃ p, ps[i]? = some p := ⟨_, List.getElem?_eq_getElem (pv.1 ▸ hlt)⟩
      obtain ⟨q, t, u, e, ht⟩ := pv.2 i p hp'
      rw [hv] at e
      cases e
      have k2 : ∀ b o, b ≠ I → h'.get? b = some o → h₂.get? b = some o := fun b o n e => hk₂ b o (fun m => n (List.mem_singleton.mp m)) e
      have F₂ : Fr g env.locals h₂ m := fr_call (W := [I]) F' (fun b o nb e => k2 b o (fun q => nb (q ▸ .head _)) e) (fun q => hIL (List.mem_singleton.mp q).symm) (fun a ha => by rw [List.mem_singleton.mp ha]; exact hIg)
      refine wpAny_letOwnedTupleGo_listiter hst₂.1 ?_
      refine wpAny_assign_Tuple (items := List.toArray [.int p.1 t, .int p.2 u]) hh (F₂.tup ht) rfl rfl fun h₃ x₃ => ?_
      have k₃ : ∀ b o, h₂.get? b = some o → h₃.get? b = some o := fun b o e => x₃ b o (Nat.ne_of_lt (Heap.lt_size e)) e
      have hn₃ : h₃.Ns H2.objs.size m' := hn'.at' fun o e => k₃ _ o (k2 _ o hCI e)
      refine assignInOrder_cons ?_
      show wpAny _ A (assign (.Name x px) _ _) _ _ _
      refine wpAny_assign_Name (wpAny_storeName_local (lookup_relabel_local hx) hn₃ (fun h₄ hn₄ hs₄ => ?_) (by simp [compEnvC, relabel, hkind]))
      refine assignInOrder_cons ?_
      show wpAny _ A (assign (.Name x₂ px₂) _ _) _ _ _
      refine wpAny_assign_Name (wpAny_storeName_local (lookup_relabel_local hx₂) hn₄ (fun h₅ hn₅ hs₅ => ?_) (by simp [compEnvC, relabel, hkind]))
      refine assignInOrder_nil ?_
      have up : ∀ b o, b ≠ H2.objs.size → b ≠ I → h'.get? b = some o → h₅.get? b = some o := fun b o hbC hbI e => hs₅.extBut b o hbC (hs₄.extBut b o hbC (k₃ b o (k2 b o hbI e)))
      have hst₅ : h₅.IsListIter I pa (i + 1) := hst₂.1.at fun o e => hs₅.extBut _ o hCI.symm (hs₄.extBut _ o hCI.symm (k₃ _ o e))
      have hk₅ : ∀ b o, b ∉ [I] → s₂.heap.get? b = some o → h₅.get? b = some o := fun b o hb e => up b o (below b (Heap.lt_size e)).1 (fun q => hb (q ▸ .head _)) (hk b o (fun q => hb (q ▸ .head _)) e)
      have hac₅ : h₅.PlainList s₂.heap.objs.size (List.toArray ys) := hac'.at fun o e => up _ o hDC hDI e
      obtain ⟨oC, no, F₅, N₅, hne⟩ := turn_ctx (wr := [I]) F N hk₅ (fun b hb => by
        rw [List.mem_singleton.mp hb]
        exact ⟨hIL, hIg, hIn⟩) hCle hn₅
      refine wpAny_mono (turn p t u H2.objs.size oC _ h₅ _ (List.mem_of_getElem? hp') no (by rw [if_neg hxx]; exact if_pos rfl) (if_pos rfl) F₅ N₅ hne) (fun y s₆ z => ?_) fun _ _ z => z.elim
      obtain ⟨_, ⟨t', rfl⟩, H₆, tk₆, rfl, kp⟩ := z
      have hlen : ys.length ≤ vs.length := by rw [hJ'.length, List.length_map, List.length_take]; omega
      refine wpAny_list_append_plain (hsz := by rw [List.size_toArray, sizeLine_eq]; have := pv.1; omega) (hac₅.at fun o e => kp.all _ o e) fun h₇ hl₇ hs₇ => ?_
      have up₇ : ∀ b o, b ≠ s₂.heap.objs.size → h₅.get? b = some o → h₇.get? b = some o := fun b o hb e => hs₇.extBut b o hb (kp.all b o e)
      have et : ps.take (i + 1) = ps.take i ++ [p] := by rw [List.take_add_one, hp']; rfl
      refine ⟨vs.length + 1 - (i + 1), by omega, h₇, tk₆, _, ys ++ [.int (f p) t'], i + 1, rfl, hst₅.at fun o e => up₇ _ o hDI.symm e, hn₅.at' fun o e => up₇ _ o hDC.symm e, by simpa using hl₇, ?_, hlt, rfl, fun b o hb e => up₇ b o (below b (Heap.lt_size e)).2 (hk₅ b o (fun q => hb (List.mem_singleton.mp q)) e)⟩
      rw [et, List.map_append]
      exact ksk_snoc hJ'
    · have hin : i = vs.length := by omega
      subst hin
      refine W.done _ _ _ ⟨by simpa using hst', hlp _ F'.keep⟩ fun h₂ tk₂ hk₂ => ?_
      have k2 : ∀ b o, b ≠ I → h'.get? b = some o → h₂.get? b = some o := fun b o n e => hk₂ b o (fun m => n (List.mem_singleton.mp m)) e
      refine hRR _ _ h₂ tk₂ m' ys (Nat.le_refl _) hCle hDC (hn'.at' fun o e => k2 _ o hCI e) (hac'.at fun o e => k2 _ o hDI e) ?_ fun b o hb e => k2 b o hb (hk b o hb e)
      rw [List.take_of_length_le (by rw [pv.1]; exact Nat.le_refl _)] at hJ'
      exact hJ'
  exact codeAny_compStart_list (loop _ rfl) (W.self 0 _ _ _ ⟨hst₁, hlp _ (F.kept old).keep⟩ (loop _ rfl))

/-- what a comprehension over pairs asks at its iterable -/
inductive PairsC (prog : Program) (w : World) (A : Around) (env : Env) (scope : Scope) (cl : List (Str × Addr)) (x x₂ : Str) (elt : Expr) (Q : Value → Shared → Prop) (xv : Value) (s₁ : Shared) : Prop
  | mk : ∀ (g pa vs ps m news f), xv = .ref pa → A.handled = none → Fr g env.locals s₁.heap m → News g env.locals s₁.heap news → g.IsList pa vs.toArray → PairsV g vs ps → ps.length < 1000 → (∀ I, PTurn prog w A env scope cl x x₂ elt g { s₁ with heap := s₁.heap.push I } m news ps f) → (∀ D ys h' tk n, Fr g env.locals h' m → News g env.locals h' ((D, listOf (List.toArray ys) n) :: news) → (∀ q ∈ news, q.1 < D) → IntsAre ys (ps.map f) → Q (.ref D) { s₁ with heap := h', toks := tk }) → PairsC prog w A env scope cl x x₂ elt Q xv s₁
theorem PairsC.intro {scope : Scope} {cl : List (Str × Addr)} {x x₂ : Str} {elt : Expr} {Q : Value → Shared → Prop} {xv : Value} {s₁ : Shared} {g : Heap} {pa : Addr} {vs : List Value} {ps : List (Int × Int)} {m : Str → Option Value} {news : List (Addr × Obj)} (f : Int × Int → Int)
    (e : xv = .ref pa) (hh : A.handled = none) (F : Fr g env.locals s₁.heap m) (N : News g env.locals s₁.heap news) (hl : g.IsList pa vs.toArray) (pv : PairsV g vs ps) (hz : ps.length < 1000)
    (turn : ∀ I p t u C oC m₂ h tk, p ∈ ps → LCg.NsObj oC m₂ → m₂ x = some (.int p.1 t) → m₂ x₂ = some (.int p.2 u) → Fr g env.locals h m → News g env.locals h ((C, oC) :: news) → (∀ q ∈ news, q.1 ≠ C) →
      wpAny (model prog w) A (eval elt (compEnvC scope cl C env)) (PElt { s₁ with heap := s₁.heap.push I } h true (f p)) (fun _ _ => False) { { s₁ with heap := s₁.heap.push I } with heap := h, toks := tk })
    (done : ∀ D ys h' tk n, Fr g env.locals h' m → News g env.locals h' ((D, listOf (List.toArray ys) n) :: news) → (∀ q ∈ news, q.1 < D) → IntsAre ys (ps.map f) → Q (.ref D) { s₁ with heap := h', toks := tk }) :
    PairsC prog w A env scope cl x x₂ elt Q xv s₁ := ⟨g, pa, vs, ps, m, news, f, e, hh, F, N, hl, pv, hz, turn, done⟩
theorem eval_pairs {elt iter : Expr} {x x₂ : Str} {px px₂ tp : Pos} {k : Nat} {scope : Scope} {cl : List (Str × Addr)} {pos : Pos} {Q : Value → Shared → Prop}
    (hclos : closureFor scope env = pure cl) (hcell : ∀ y ∈ scope.names, y.2 ≠ .cell) (hkind : scope.kind = .function)
    (hnames : ∀ y ∈ scope.names, y.2 = .local → scope.names.lookup y.1 = some .local) (hx : scope.names.lookup x = some .local) (hx₂ : scope.names.lookup x₂ = some .local) (hxx : x ≠ x₂)
    (h : wpAny (model prog w) A (eval iter env) (PairsC prog w A env scope cl x x₂ elt Q) E s)
    (hs : ∀ x, foldedSetIterable iter env x = pure x := by intro _; rfl) :
    wpAny (model prog w) A (eval (.ListComp elt [⟨.Tuple [.Name x px, .Name x₂ px₂] k tp, iter, [], 0⟩] scope pos) env) Q E s := by
  rw [eval_ListComp]
  refine wpAny_comprehension_free (use := none) rfl hs hclos hkind hnames (wpAny_mono h (fun xv s₁ h₁ => ?_) fun _ _ e => e)
  obtain ⟨g, pa, vs, ps, m, news, f, rfl, hh, F, N, hl, pv, hz, turn, done⟩ := h₁
  have hts : s₁.heap.IsList pa vs.toArray := by
    obtain ⟨o, ho, r⟩ := hl
    exact ⟨o, F.keep _ _ ho, r⟩
  have hgI : g.get? s₁.heap.objs.size = none := by
    cases q : g.get? s₁.heap.objs.size with
    | none => rfl
    | some o => exact absurd (Heap.lt_size (F.keep _ _ q)) (Nat.lt_irrefl _)
  refine wpAny_pyIter_list hts ?_
  refine pairs_block (RR := fun acc C => compPost (model prog w) A E none Q acc C) hh hz hcell hkind hx hx₂ hxx ⟨_, Heap.get?_push_size _ rfl, rfl, rfl⟩ (Nat.ne_of_gt F.ns.lt) hgI (fun p hp => Nat.ne_of_lt (Heap.lt_size (N p hp).1)) hl pv (F.push _) (fun p hp => ⟨Heap.get?_push_of_some _ (N p hp).1, (N p hp).2⟩) (turn _) ?_
  intro D C h' tk m' ys hD hC hDC hn hpl iy hk
  have hsz : ∀ o : Obj, (s₁.heap.push o).objs.size = s₁.heap.objs.size + 1 := fun o => by rw [Heap.size_push]
  have keep : ∀ b o, s₁.heap.get? b = some o → h'.get? b = some o := fun b o e => hk b o (Nat.ne_of_lt (Heap.lt_size e)) (Heap.get?_push_of_some _ e)
  refine ⟨m', hn, fun h'' hs'' => ?_⟩
  have keep2 : ∀ b o, s₁.heap.get? b = some o → h''.get? b = some o := fun b o e => hs''.extBut b o (fun q => by
    have := Heap.lt_size e
    rw [q] at this
    have hC' : @LE.le Nat _ (s₁.heap.objs.size + 1) C := Nat.le_trans (Nat.le_of_eq (hsz _).symm) hC
    exact absurd (Nat.lt_of_lt_of_le this (Nat.le_of_succ_le hC')) (Nat.lt_irrefl _)) (keep b o e)
  obtain ⟨n, ho⟩ := hpl.extBut hs''.extBut hDC
  have hD' : @LE.le Nat _ (s₁.heap.objs.size + 1) D := Nat.le_trans (Nat.le_of_eq (hsz _).symm) hD
  refine done D ys h'' tk n (F.kept keep2) (fun q hq => ?_) (fun q hq => Nat.lt_of_lt_of_le (Heap.lt_size (N q hq).1) (Nat.le_of_succ_le hD')) iy
  rcases List.mem_cons.mp hq with rfl | hq
  · refine ⟨ho, ?_, ?_⟩
    · exact Nat.ne_of_gt (Nat.lt_of_lt_of_le F.ns.lt (Nat.le_of_succ_le hD'))
    · cases q : g.get? D with
      | none => rfl
      | some o =>
        exact absurd (Nat.lt_of_lt_of_le (Heap.lt_size (F.keep _ _ q)) (Nat.le_of_succ_le hD')) (Nat.lt_irrefl _)
  · exact ⟨keep2 _ _ (N q hq).1, (N q hq).2⟩
end
end SPairs
section SPure

def canon (R : List Int) : List Int := [1, 2, 3, 4, 5].filterMap fun v => if v ∈ R then some v else if -v ∈ R then some (-v) else none
abbrev Clash (xs ys : List Int) (v : Int) : Prop := (v ∈ xs ∧ -v ∈ ys) ∨ (-v ∈ xs ∧ v ∈ ys)
abbrev Clean (R : List Int) : Prop := ∀ x ∈ R, -x ∉ R
def resP (xs ys : List Int) (v : Int) : Option (List Int) := if Clash xs ys v then (if Clean (rest xs ys v) then some (canon (rest xs ys v)) else none) else none
def chainP (cls : List (List Int)) (o : Option (List Int)) (ps : List (Int × Int)) : Option (List Int) := ps.foldl (fun o p => o.bind fun st => resP st (cls.getD p.2.toNat []) p.1) o

theorem iab_of_mem {v : Int} (h : v ∈ ([1, 2, 3, 4, 5] : List Int)) : iab v = v ∧ iab (-v) = v := by
  have : 1 ≤ v ∧ v ≤ 5 := by simp at h; omega
  exact ⟨iab_pos this.1, by rw [iab_neg, iab_pos this.1]⟩
theorem canon_abs (R : List Int) : (canon R).map iab = ([1, 2, 3, 4, 5] : List Int).filter (fun v => decide (v ∈ R) || decide (-v ∈ R)) := by
  unfold canon
  have : ∀ l : List Int, (∀ v ∈ l, iab v = v ∧ iab (-v) = v) → (l.filterMap fun v => if v ∈ R then some v else if -v ∈ R then some (-v) else none).map iab = l.filter (fun v => decide (v ∈ R) || decide (-v ∈ R)) := by
    intro l
    induction l with
    | nil => intro _; rfl
    | cons v l ih =>
      intro h
      have ih' := ih fun w hw => h w (.tail _ hw)
      have hv := h v (.head _)
      rw [List.filterMap_cons, List.filter_cons]
      by_cases h1 : v ∈ R
      · rw [if_pos h1]
        simp only [List.map_cons, ih', hv.1, h1, decide_true, Bool.true_or, if_true]
      · rw [if_neg h1]
        by_cases h2 : -v ∈ R
        · rw [if_pos h2]
          simp only [List.map_cons, ih', hv.2, h1, h2, decide_true, decide_false, Bool.or_true, if_true]
        · rw [if_neg h2]
          simp only [ih', h1, h2, decide_false, Bool.or_self, Bool.false_eq_true, if_false]
  exact this _ fun v hv => iab_of_mem hv
theorem canon_ord (R : List Int) : ((canon R).map iab).Pairwise (· < ·) := by
  rw [canon_abs]
  exact List.Pairwise.sublist List.filter_sublist (by decide)
theorem canon_rng (R : List Int) : ∀ x ∈ canon R, 1 ≤ iab x ∧ iab x ≤ 5 := by
  intro x hx
  have : iab x ∈ (canon R).map iab := List.mem_map.mpr ⟨x, hx, rfl⟩
  rw [canon_abs] at this
  have := (List.mem_filter.mp this).1
  simp at this
  omega
theorem canon_tid (R : List Int) : Tid (canon R) := ⟨canon_rng R, canon_ord R⟩
theorem iab_le5 {x : Int} (h : 1 ≤ iab x ∧ iab x ≤ 5) : iab x ∈ ([1, 2, 3, 4, 5] : List Int) ∧ (x = iab x ∨ x = -iab x) := by
  refine ⟨by simp; omega, ?_⟩
  unfold iab
  split <;> omega
theorem mem_canon {R : List Int} (h : ∀ x ∈ R, 1 ≤ iab x ∧ iab x ≤ 5) (hc : Clean R) (y : Int) : y ∈ canon R ↔ y ∈ R := by
  unfold canon
  rw [List.mem_filterMap]
  constructor
  · rintro ⟨v, _, e⟩
    split at e
    · cases e; assumption
    · split at e
      · cases e; assumption
      · cases e
  · intro hy
    obtain ⟨hm, hs⟩ := iab_le5 (h y hy)
    refine ⟨iab y, hm, ?_⟩
    rcases hs with q | q
    · rw [if_pos (by rw [← q]; exact hy), ← q]
    · have hn : iab y ∉ R := fun z => hc y hy (by rw [q, Int.neg_neg]; exact z)
      rw [if_neg hn, if_pos (by rw [← q]; exact hy), ← q]
/-- a strictly ordered list is known by its members -/
theorem ord_unique : ∀ {xs ys : List Int}, (xs.map iab).Pairwise (· < ·) → (ys.map iab).Pairwise (· < ·) → (∀ y, y ∈ xs ↔ y ∈ ys) → xs = ys
  | [], [], _, _, _ => rfl
  | [], y :: ys, _, _, h => absurd ((h y).mpr (.head _)) (by simp)
  | x :: xs, [], _, _, h => absurd ((h x).mp (.head _)) (by simp)
  | x :: xs, y :: ys, hx, hy, h => by
    rw [List.map_cons, List.pairwise_cons] at hx hy
    have e : x = y := by
      rcases List.mem_cons.mp ((h x).mp (.head _)) with q | q
      · exact q
      · rcases List.mem_cons.mp ((h y).mpr (.head _)) with r | r
        · exact r.symm
        · have h1 := hy.1 _ (List.mem_map.mpr ⟨x, q, rfl⟩)
          have h2 := hx.1 _ (List.mem_map.mpr ⟨y, r, rfl⟩)
          omega
    subst e
    refine congrArg _ (ord_unique hx.2 hy.2 fun z => ?_)
    constructor
    · intro hz
      rcases List.mem_cons.mp ((h z).mp (.tail _ hz)) with q | q
      · have := hx.1 _ (List.mem_map.mpr ⟨z, hz, rfl⟩)
        rw [q] at this; omega
      · exact q
    · intro hz
      rcases List.mem_cons.mp ((h z).mpr (.tail _ hz)) with q | q
      · have := hy.1 _ (List.mem_map.mpr ⟨z, hz, rfl⟩)
        rw [q] at this; omega
      · exact q
theorem rest_canon {xs ys zs : List Int} {v : Int} (tx : Tid xs) (ty : Tid ys) (hc : Clean (rest xs ys v)) (hm : ∀ y, y ∈ zs ↔ y ∈ rest xs ys v) (ho : (zs.map iab).Pairwise (· < ·)) : zs = canon (rest xs ys v) :=
  ord_unique ho (canon_ord _) fun y => (hm y).trans (mem_canon (fun x hx => let r := rest_rng tx ty x hx; ⟨r.1, r.2.1⟩) hc y).symm
theorem resP_tid {xs ys zs : List Int} {v : Int} (h : resP xs ys v = some zs) : Tid zs := by
  unfold resP at h
  split at h
  · split at h
    · cases h; exact canon_tid _
    · cases h
  · cases h
theorem chainP_none (cls : List (List Int)) : ∀ ps, chainP cls none ps = none
  | [] => rfl
  | _ :: ps => chainP_none cls ps
theorem chainP_snoc (cls : List (List Int)) (o : Option (List Int)) (ps : List (Int × Int)) (p : Int × Int) : chainP cls o (ps ++ [p]) = (chainP cls o ps).bind fun st => resP st (cls.getD p.2.toNat []) p.1 := by
  unfold chainP
  rw [List.foldl_append]
  rfl
theorem chainP_take {cls : List (List Int)} {o : Option (List Int)} {ps : List (Int × Int)} {i : Nat} {p : Int × Int} (h : ps[i]? = some p) : chainP cls o (ps.take (i + 1)) = (chainP cls o (ps.take i)).bind fun st => resP st (cls.getD p.2.toNat []) p.1 := by
  rw [List.take_add_one, h]
  exact chainP_snoc ..
theorem chainP_app (cls : List (List Int)) (o : Option (List Int)) (ps qs : List (Int × Int)) : chainP cls o (ps ++ qs) = chainP cls (chainP cls o ps) qs := by unfold chainP; rw [List.foldl_append]
theorem chainP_tid {cls : List (List Int)} : ∀ (ps : List (Int × Int)) {c0 d : List Int}, Tid c0 → chainP cls (some c0) ps = some d → Tid d
  | [], _, _, h, e => by cases e; exact h
  | p :: ps, c0, d, _, e => by
    have e' : chainP cls (resP c0 (cls.getD p.2.toNat []) p.1) ps = some d := e
    cases q : resP c0 (cls.getD p.2.toNat []) p.1 with
    | none => rw [q, chainP_none] at e'; cases e'
    | some z => rw [q] at e'; exact chainP_tid ps (resP_tid q) e'
theorem Tid.nodup {xs : List Int} (t : Tid xs) : (xs.map iab).Nodup := List.Pairwise.imp (fun h e => by omega) t.ord
theorem Tid.len {xs : List Int} (t : Tid xs) : xs.length ≤ 5 := by
  have := nodup_len (xs.map iab) [1, 2, 3, 4, 5] t.nodup fun y hy => by
    obtain ⟨x, hx, rfl⟩ := List.mem_map.mp hy
    exact (iab_le5 (t.rng x hx)).1
  rw [List.length_map] at this
  exact this
theorem Tid.step {xs : List Int} (t : Tid xs) : ∀ (i : Nat) x y, xs[i]? = some x → xs[i + 1]? = some y → iab x < iab y := by
  intro i x y hx hy
  have p := List.pairwise_iff_getElem.mp t.ord
  obtain ⟨h1, e1⟩ := List.getElem?_eq_some_iff.mp hx
  obtain ⟨h2, e2⟩ := List.getElem?_eq_some_iff.mp hy
  have := p i (i + 1) (by simpa using h1) (by simpa using h2) (Nat.lt_succ_self _)
  simp only [List.getElem_map, e1, e2] at this
  exact this
theorem chainP_dead {cls : List (List Int)} {o : Option (List Int)} {ps : List (Int × Int)} {i : Nat} (h : chainP cls o (ps.take i) = none) : chainP cls o ps = none := by
  rw [← List.take_append_drop i ps, chainP_app, h, chainP_none]
end SPure
theorem word16 : True := by
  k_with_none
  k_with "call builtin:len" => (k_here; (with_reducible show wpAny _ _ (call (Value.builtin "len") [Value.ref _]) _ _ _); (with_unfolding_all refine' len_tupI ?k1 ?k2 ?k3 ?_; (case k1 => first | assumption | exact Fr.tup (by assumption) (by assumption)); (case k2 => l_ints); (case k3 => l_fit); k_whole))
  k_with "call builtin:len" => (k_here; (with_reducible show wpAny _ _ (call (Value.builtin "len") [Value.ref _]) _ _ _); (with_unfolding_all refine' len_lst ?k1 ?k3 ?_; (case k1 => exact News.isList (by k_asm) (by k_mem)); (case k3 => (simp only [List.length_map]; omega)); k_whole))
  k_with "subscriptTail" => (k_here; (with_reducible show wpAny _ _ (subscriptTail _ _ (Value.ref _) (Value.int _ _)) _ _ _); (with_unfolding_all refine' item_tuple_ints ?k1 ?k2 ?k3 ?k4 ?k5 ?_ ?k6 ?k7; (case k1 => first | assumption | exact Fr.tup (by assumption) (by assumption)); (case k2 => l_ints); (case k3 => omega); (case k4 => omega); (case k5 => omega); (case k6 => with_unfolding_all rfl); (case k7 => (intro _; with_unfolding_all rfl)); k_whole); intro _)
  k_with "subscriptTail" => (k_here; (with_reducible show wpAny _ _ (subscriptTail _ _ (Value.ref _) (Value.int _ _)) _ _ _); (with_unfolding_all refine' item_listR ?k1 ?k2 ?k3 ?k4 ?_ ?k6; (case k4 => assumption); (case k1 => exact News.isList (by k_asm) (by k_mem)); (case k2 => omega); (case k3 => omega); (case k6 => with_unfolding_all rfl); k_whole))
  k_with "exec For Name Name cons nil" => (k_here; (rename Fr _ _ _ _ => lF'); (with_unfolding_all refine' for_walksF lF' ?k1 ?k2 ?_; (case k1 => exact rfl); (case k2 => exact rfl); k_whole))
  k_with "exec For Name Call cons nil" => (k_here; (rename Fr _ _ _ _ => lF'); (with_unfolding_all refine' for_walksF lF' ?k1 ?k2 ?_; (case k1 => exact rfl); (case k2 => exact rfl); k_whole))
  trivial
section SChain
theorem word17 : True := by
  k_with "exec Raise some none" => (k_here; k_dflt (refine' raise_fault ?k1 ?_; (case k1 => first | assumption | rfl); k_whole))
  k_with "formatField int" => (k_here; k_dflt (refine' wpAny_formatField_int ?k1 ?_; (case k1 => assumption); k_whole))
  k_with "exec For Tuple Name cons nil" => (k_here; (rename Fr _ _ _ _ => lF'); k_dflt (refine' For_turns lF' ?_ ?k1 ?k2; (case k1 => exact fun _ => rfl); (case k2 => exact PassesOwn.leaving); k_whole))
  k_with "eval ListComp" => (k_here; k_dflt (refine' eval_pairs ?k1 ?k2 ?k3 ?k4 ?k5 ?k6 ?k7 ?_; (case k1 => with_unfolding_all rfl); (case k2 => decide); (case k3 => rfl); (case k4 => decide); (case k5 => rfl); (case k6 => rfl); (case k7 => decide); k_whole))
  trivial
structure FitsStr (x : Str) : Prop where
  fits : x.length ≤ sizeLine
theorem FitsStr.and {x : Str} {P : Prop} (h : FitsStr x) (p : P) : x.length ≤ sizeLine ∧ P := ⟨h.fits, p⟩
theorem FitsStr.out {x : Str} (h : FitsStr x) : x.length ≤ sizeLine := h.fits
theorem word18 : True := by
  k_with "And" => (with_reducible refine FitsStr.and ?ha ?hb; (case ha => with_reducible assumption))
  k_with "joinParts" => ((with_reducible refine joinParts_nilE ?_); (with_reducible refine joinParts_nil (hsz := ?hsz) ?_); (case hsz => (with_reducible refine FitsStr.out ?_; with_reducible assumption)))
  trivial
theorem fr_list {g h : Heap} {L a : Addr} {m : Str → Option Value} {vs : Array Value} (F : Fr g L h m) (x : g.IsList a vs) : h.IsList a vs := let ⟨o, ho, r⟩ := x; ⟨o, F.keep _ _ ho, r⟩
theorem word19 : True := by
  k_with "call builtin:len" => (k_here; (with_reducible show wpAny _ _ (call (Value.builtin "len") [Value.ref _]) _ _ _); (with_unfolding_all refine' len_lst ?k1 ?k3 ?_; (case k1 => exact fr_list (by k_asm) (by assumption)); (case k3 => omega); k_whole))
  trivial
theorem add_tups {prog : Program} {w : World} {A : Around} {E Q : Value → Shared → Prop} {s : Shared} {g : Heap} {L t b : Addr} {m : Str → Option Value} {news : List (Addr × Obj)} {vs ws : List Value} (F : Fr g L s.heap m) (N : News g L s.heap news) (ht : IsTup s.heap t vs.toArray) (hb : IsTup s.heap b ws.toArray)
    (hv : 0 < vs.length) (hw : 0 < ws.length) (hz : vs.length + ws.length ≤ 16384)
    (h : ∀ D h', Fr g L h' m → News g L h' ((D, ({ cls := .type "tuple", data := .seq (vs ++ ws).toArray } : Obj)) :: news) → (∀ p ∈ news, p.1 < D) → Q (.ref D) { s with heap := h' }) : wpAny (model prog w) A (binaryOp .Add (.ref t) (.ref b)) Q E s :=
  kde_addT F N ht hb (by rw [List.toList_toArray]; exact List.ne_nil_of_length_pos hv) (by rw [List.toList_toArray]; exact List.ne_nil_of_length_pos hw) (by rw [List.toList_toArray, List.toList_toArray]; exact hz) (by rw [List.toList_toArray, List.toList_toArray]) h
theorem tup_not {h : Heap} {a pr dp st nm : Addr} {as : List Addr} {em : Int} {vs : Array Value} (P : ProofAt h pr dp st nm as em) (t : IsTup h a vs) : a ∉ [st, pr, dp] := by
  obtain ⟨o, ho, hc, _⟩ := t
  obtain ⟨a1, a2, a3, t1, t2, t3, t4, h2⟩ := P.dict
  obtain ⟨n, h3⟩ := P.list
  have h1 := P.inst
  simp only [List.mem_cons, List.not_mem_nil, or_false, not_or]
  refine ⟨?_, ?_, ?_⟩ <;> rintro rfl
  · rw [h3] at ho; cases ho; exact absurd (show Value.type "list" = Value.type "tuple" from hc) (by decide)
  · rw [h1] at ho; cases ho; exact absurd (show Value.ref 705 = Value.type "tuple" from hc) (by decide)
  · rw [h2] at ho; cases ho; exact absurd (show Value.type "dict" = Value.type "tuple" from hc) (by decide)
theorem tupi_not {h : Heap} {a pr dp st nm : Addr} {as : List Addr} {em : Int} {xs : List Int} (P : ProofAt h pr dp st nm as em) (t : TupInts h a xs) : a ∉ [st, pr, dp] := let ⟨_, _, t⟩ := t; tup_not P t
theorem sd_not {a pr dp st : Addr} (n : a ∉ [st, pr, dp]) : a ∉ [st, dp] := fun m => n (by simp only [List.mem_cons, List.not_mem_nil, or_false] at m ⊢; rcases m with rfl | rfl <;> simp)
theorem hideT {g h : Heap} {W : List Addr} {a : Addr} {vs : Array Value} (hg : g = hideAll h W) (t : IsTup h a vs) (n : a ∉ W) : IsTup g a vs := let ⟨o, ho, r⟩ := t; ⟨o, hide1 hg ho n, r⟩
/-- a step of the proof, read -/
inductive StepGot (h : Heap) (as : List Addr) (cls : List (List Int)) (i : Int) : Prop
  | mk (a : Addr) (c : List Int) (rv : Value) (ca : Addr) (pv nv : Value) : as[i.toNat]? = some a → cls[i.toNat]? = some c → cls.getD i.toNat [] = c → IsTup h a (List.toArray [rv, .ref ca, pv, nv]) → TupInts h ca c → StepGot h as cls i
theorem StepsAt.get {h : Heap} {as : List Addr} {cls : List (List Int)} (S : StepsAt h as cls) {i : Int} (h0 : 0 ≤ i) (h1 : i < as.length) : StepGot h as cls i := by
  have hi : i.toNat < as.length := by omega
  have hc : i.toNat < cls.length := S.len ▸ hi
  obtain ⟨rv, ca, pv, nv, ht, hi'⟩ := S.at_ i.toNat as[i.toNat] cls[i.toNat] (List.getElem?_eq_getElem hi) (List.getElem?_eq_getElem hc)
  exact ⟨_, _, rv, ca, pv, nv, List.getElem?_eq_getElem hi, List.getElem?_eq_getElem hc, by rw [List.getD_eq_getElem?_getD, List.getElem?_eq_getElem hc]; rfl, ht, hi'⟩
abbrev ledP (pr dp st nm : Addr) (as : List Addr) (n : Nat) (a1 a2 a3 : Int) (t1 t2 t3 t4 : Tok) (em : Int) : List (Addr × Obj) := [(st, listOf (List.toArray (as.map Value.ref)) n), (pr, instObj 705 dp), (dp, dictOf [⟨a1, .str (Str.ofString "steps") t1, .ref st⟩, ⟨a2, .str (Str.ofString "named") t2, .ref nm⟩, ⟨a3, .str (Str.ofString "empty") t3, .int em t4⟩] 3)]
theorem led_proof {g h : Heap} {L pr dp st nm : Addr} {as : List Addr} {n : Nat} {a1 a2 a3 : Int} {t1 t2 t3 t4 : Tok} {em : Int} (N : News g L h (ledP pr dp st nm as n a1 a2 a3 t1 t2 t3 t4 em)) : ProofAt h pr dp st nm as em :=
  ⟨(N _ (.tail _ (.head _))).1, ⟨a1, a2, a3, t1, t2, t3, t4, (N _ (.tail _ (.tail _ (.head _)))).1⟩, n, (N _ (.head _)).1⟩
theorem hidden {g h : Heap} {W : List Addr} (hg : g = hideAll h W) : ∀ a ∈ W, g.get? a = none := fun _ m => hg ▸ hideAll_none _ m
/-- all that stood stands -/
theorem led_keep {g h h' : Heap} {L pr dp st nm : Addr} {as : List Addr} {n : Nat} {a1 a2 a3 : Int} {t1 t2 t3 t4 : Tok} {em : Int} {m : Str → Option Value} (hg : g = hideAll h [st, pr, dp]) (F : Fr g L h' m) (N : News g L h' (ledP pr dp st nm as n a1 a2 a3 t1 t2 t3 t4 em))
    (h1 : h.get? pr = some (instObj 705 dp)) (h2 : h.get? dp = some (dictOf [⟨a1, .str (Str.ofString "steps") t1, .ref st⟩, ⟨a2, .str (Str.ofString "named") t2, .ref nm⟩, ⟨a3, .str (Str.ofString "empty") t3, .int em t4⟩] 3)) (h3 : h.get? st = some (listOf (List.toArray (as.map Value.ref)) n)) :
    Keep [] h h' :=
  (Keep.of_base hg F.keep).shrink fun a m => by
    simp only [List.mem_cons, List.not_mem_nil, or_false] at m
    rcases m with rfl | rfl | rfl
    · exact .inr (same_of h3 (N _ (.head _)).1)
    · exact .inr (same_of h1 (N _ (.tail _ (.head _))).1)
    · exact .inr (same_of h2 (N _ (.tail _ (.tail _ (.head _)))).1)
theorem resP_dirty {xs ys : List Int} {v : Int} (h : Clash xs ys v) (n : ∃ x ∈ rest xs ys v, -x ∈ rest xs ys v) : resP xs ys v = none := by
  unfold resP
  rw [if_pos h, if_neg fun hc => let ⟨x, m, n⟩ := n; hc x m n]
theorem resP_noclash {xs ys : List Int} {v : Int} (h : ¬ Clash xs ys v) : resP xs ys v = none := if_neg h
theorem resP_some {xs ys : List Int} {v : Int} (h : Clash xs ys v) (n : Clean (rest xs ys v)) : resP xs ys v = some (canon (rest xs ys v)) := by
  unfold resP
  rw [if_pos h, if_pos n]
theorem on_log {v : Int} (h : 1 ≤ v ∧ v ≤ 5) : v.natAbs.log2 < 1920 := by
  have : v = 1 ∨ v = 2 ∨ v = 3 ∨ v = 4 ∨ v = 5 := by omega
  rcases this with e | e | e | e | e <;> rw [e] <;> decide
theorem on_fit {v : Int} (h : 1 ≤ v ∧ v ≤ 5) : FitsStr (Str.empty ++ Str.ofString "resolving on " ++ Str.ofString (toString v)) := by
  constructor
  have : v = 1 ∨ v = 2 ∨ v = 3 ∨ v = 4 ∨ v = 5 := by omega
  rw [sizeLine_eq]
  rcases this with e | e | e | e | e <;> rw [e] <;> decide +kernel
theorem on_fit2 {v : Int} (h : 1 ≤ v ∧ v ≤ 5) : FitsStr (Str.empty ++ Str.ofString "resolving on " ++ Str.ofString (toString v) ++ Str.ofString " leaves a clause that always holds") := by
  constructor
  have : v = 1 ∨ v = 2 ∨ v = 3 ∨ v = 4 ∨ v = 5 := by omega
  rw [sizeLine_eq]
  rcases this with e | e | e | e | e <;> rw [e] <;> decide +kernel
/-- between two turns of the chain -/
inductive ChainJ (g : Heap) (L pr dp st nm pa : Addr) (as : List Addr) (n0 : Nat) (a1 a2 a3 : Int) (t1 t2 t3 t4 : Tok) (em first : Int) (tf : Tok) (cls : List (List Int)) (c1 : List Int) (ps : List (Int × Int)) (i : Nat) (m₁ : Str → Option Value) (news₁ : List (Addr × Obj)) : Prop
  | mk (a : Addr) (st' : List Int) (extra : List (Addr × Obj)) : chainP cls (some c1) (ps.take i) = some st' → NamesAt m₁ [(Str.ofString "stand", .ref a), (Str.ofString "pairs", .ref pa), (Str.ofString "first", .int first tf), (Str.ofString "self", .ref pr)] →
    news₁ = ledP pr dp st nm as n0 a1 a2 a3 t1 t2 t3 t4 em ++ extra → (∀ h' m', Fr g L h' m' → News g L h' extra → TupInts h' a st') → ChainJ g L pr dp st nm pa as n0 a1 a2 a3 t1 t2 t3 t4 em first tf cls c1 ps i m₁ news₁
section
variable {w : World} {mean : ExcName → Option Value} {mg mb : Str → Option Value} {B : Heap} {s : Shared} {Q E : Value → Shared → Prop} {pr dp st nm pa : Addr} {as : List Addr} {em : Int} {cls : List (List Int)} {ps : List (Int × Int)}
theorem chain_c {A : Around} {outer : List Env} (X : (Mine.hd.heap_39 w.params).In B) (T : Tp mean mg mb B) (hB : B.StaysIn s.heap) (hfr : A.frames = some outer) (hA : A.depth < 500) (hU : A.units ≤ 4000) (hh : A.handled = none) (FO : FrsOk s.heap outer)
    (P : ProofAt s.heap pr dp st nm as em) (hO : ∀ a ∈ [st, pr, dp], B.get? a = none) (hFr : ∀ a ∈ Frs outer, a ∉ [st, pr, dp]) (S : StepsAt s.heap as cls) (hlen : as.length < 200) (tid : ∀ c ∈ cls, Tid c)
    (hPA : PairsAt s.heap pa ps) (hpa : pa ≠ st) (hne : 0 < ps.length) (hpl : ps.length < 100) (hps : ∀ p ∈ ps, 1 ≤ p.1 ∧ p.1 ≤ 5 ∧ 0 ≤ p.2 ∧ p.2 < as.length) {first : Int} {tf : Tok} (hf0 : 0 ≤ first) (hf1 : first < as.length)
    (hret : ∀ d, chainP cls (some (cls.getD first.toNat [])) ps = some d → ∀ h' tk t a em' da pra vra tr, Keep [st, dp] s.heap h' → ProofAt h' pr dp st nm (as ++ [a]) em' → s.heap.get? a = none →
      IsTup h' a (List.toArray [.str (Str.ofString "resolve") tr, .ref da, .ref pra, .ref vra]) → TupInts h' da d → TupInts h' pra (first :: ps.map (·.2)) → TupInts h' vra (ps.map (·.1)) → Q (.int (as.length : Nat) t) { s with heap := h', toks := tk })
    (hraise : chainP cls (some (cls.getD first.toNat [])) ps = none → ∀ h' tk e, RaisedC s.heap [] outer e h' → E (.ref e) { s with heap := h', toks := tk }) :
    wpAny (model PySem.Challenge.rw_rg0222_01.row.prog w) A (call (.ref 650) [.ref pr, .int first tf, .ref pa]) Q E s := by
  have hroom : A.depth < recursionLimit := Nat.lt_of_lt_of_le hA (Nat.le_of_ble_eq_true rfl)
  have hd60 : A.depth + 1 < 600 := Nat.le_trans (Nat.succ_le_succ hA) (Nat.le_of_ble_eq_true rfl)
  have hd : ∀ d, 500 ≤ d → A.depth + 1 ≤ d := fun d h => Nat.le_trans hA h
  have hu : ∀ u, 4003 ≤ u → A.units + 3 ≤ u := fun u h => Nat.le_trans (Nat.add_le_add_right hU 3) h
  obtain ⟨d1, d2, d3⟩ := P.ne
  have e1 := neN d1
  have e2 := neN d2
  have e3 := neN d3
  obtain ⟨a1, a2, a3, t1, t2, t3, t4, hdp⟩ := P.dict
  obtain ⟨n0, hst⟩ := P.list
  have hpi := P.inst
  refine wpAny_call ?_
  k_dflt (refine' enter (binds := [(Str.ofString "self", .ref pr), (Str.ofString "first", .int first tf), (Str.ofString "pairs", .ref pa)]) [st, pr, dp] X T.nolimit hB hO ?k6 ?k7 ?k8 ?k9 ?kB ?_ ?c5 ?c2 ?c3 ?c4; (case k6 => k_is); (case k7 => k_is); (case k8 => exact hroom); (case k9 => exact BindsTo.of_eq rfl); (case kB => exact locs rfl); (case c5 => decide); (case c2 => exact rfl); (case c3 => exact rfl); (case c4 => exact rfl))
  intro g L h₁ hg hL F hk₁ sg Xg
  have Tg := T.keeps sg
  have N := ProofAt.news hL hk₁ hg hpi hdp hst
  obtain ⟨vps, hlp, pv⟩ := hPA
  have hpaW : pa ∉ [st, pr, dp] := by
    obtain ⟨o, ho, hc, _⟩ := hlp
    exact notin_cons hpa (notin_cons (fun e => by rw [e, hpi] at ho; cases ho; exact absurd (show Value.ref 705 = Value.type "list" from hc) (by decide)) (notin_cons (fun e => by rw [e, hdp] at ho; cases ho; exact absurd (show Value.type "dict" = Value.type "list" from hc) (by decide)) notin_nil))
  have hlg : g.IsList pa vps.toArray := let ⟨o, ho, r⟩ := hlp; ⟨o, hide1 hg ho hpaW, r⟩
  have pvg : PairsV g vps ps := ⟨pv.1, fun i p hp => by cases pv.2 i p hp with | mk q t u e ht => exact ⟨q, t, u, e, hideT hg ht (tup_not P ht)⟩⟩
  have hlm : (List.map Value.ref as).length = as.length := List.length_map ..
  have hvl : vps.length = ps.length := pv.1
  refine wpAny_mono ?_ (fun _ _ h => h) (fun _ _ h => h)
  k_fold
  k_steps
  rename Fr _ _ _ _ => F2
  rename News _ _ _ _ => N2
  obtain ⟨f1, c1, rv1, ca1, pv1, nv1, hf2, hf3, hf4, hf5, hf6⟩ := S.get hf0 hf1
  have hf7 := tup_not P hf5
  have kk := led_keep hg F2 N2 hpi hdp hst
  refine use_lo (clause_c Xg Tg (by exact F2.keep) (led_proof N2) (hidden hg) (by omega) hf0 hf2 (let ⟨o, ho, r⟩ := hf5; ⟨o, kk.all _ _ ho, r⟩) hf7 fun h3 tk3 k3 => ?_) hh (by exact hd _ (Nat.le_of_ble_eq_true rfl)) (by exact hu _ (Nat.le_of_ble_eq_true rfl))
  have F3 := fr_call0 F2 k3
  have N3 := news_call0 N2 k3
  clear F2 N2 kk
  have hc1g : TupInts g ca1 c1 := by cases hf6 with | mk vs iv ht => exact ⟨vs, iv, hideT hg ht (tup_not P ht)⟩
  k_steps
  rename Fr _ _ _ _ => F4
  rename News _ _ _ _ => N4
  rw [hf4] at hret hraise
  refine iter_pairs (ChainJ g L pr dp st nm pa as n0 a1 a2 a3 t1 t2 t3 t4 em first tf cls c1 ps) hh rfl rfl rfl hlg pvg F4 N4
    ⟨ca1, c1, [], rfl, four_names rfl rfl rfl rfl, rfl, fun _ _ F' _ => hc1g.fr F'⟩ ?_ ?_
  · rintro I i p t u m₁ _ h tk oI hp ⟨a, st', extra, hch, hnm, rfl, back⟩ hI F5 N5
    have pb := hps p (List.mem_of_getElem? hp)
    have hT : TupInts h a st' := back _ _ F5 (news_from 4 N5)
    have tc1 : Tid c1 := tid c1 (List.mem_of_getElem? hf3)
    have tst : Tid st' := chainP_tid _ tc1 hch
    rw [with_names hnm] at F5
    dsimp only [withNames] at F5
    generalize m₁ = mm at F5
    clear hnm m₁
    have N6 : News g _ h ((I, oI) :: ledP pr dp st nm as n0 a1 a2 a3 t1 t2 t3 t4 em) := news_upto 4 N5
    obtain ⟨f2, c2, rv2, ca2, pv2, nv2, hs2, hs3, hs4, hs5, hs6⟩ := S.get pb.2.2.1 pb.2.2.2
    have hs7 := tup_not P hs5
    have tc2 : Tid c2 := tid c2 (List.mem_of_getElem? hs3)
    have hc2g : TupInts g ca2 c2 := by cases hs6 with | mk vs iv ht => exact ⟨vs, iv, hideT hg ht (tup_not P ht)⟩
    have hlog := on_log ⟨pb.1, pb.2.1⟩
    have hfit2 := on_fit ⟨pb.1, pb.2.1⟩
    have hfit3 := on_fit2 ⟨pb.1, pb.2.1⟩
    clear N5 F4 N4
    k_steps
    rename Fr _ _ _ _ => F7
    rename News _ _ _ _ => N7
    have N7' : News g _ _ (ledP pr dp st nm as n0 a1 a2 a3 t1 t2 t3 t4 em) := news_tl N7
    have kk := led_keep hg F7 N7' hpi hdp hst
    refine use_lo (clause_c Xg Tg (by exact F7.keep) (led_proof N7') (hidden hg) (by omega) pb.2.2.1 hs2 (let ⟨o, ho, r⟩ := hs5; ⟨o, kk.all _ _ ho, r⟩) hs7 fun h8 tk8 k8 => ?_) hh (by exact hd _ (Nat.le_of_ble_eq_true rfl)) (by exact hu _ (Nat.le_of_ble_eq_true rfl))
    have F8 := fr_call0 F7 k8
    have N8 := news_call0 N7 k8
    have hT8 : TupInts h8 a st' := hT.keep k8 (fun m => nomatch m)
    clear F7 N7 kk N7'
    k_steps
    rename Fr _ _ _ _ => F9
    rename News _ _ _ _ => N9
    have N9' : News g _ _ (ledP pr dp st nm as n0 a1 a2 a3 t1 t2 t3 t4 em) := news_tl N9
    have kk := led_keep hg F9 N9' hpi hdp hst
    have hstep : chainP cls (some c1) (ps.take (i + 1)) = resP st' c2 p.1 := by rw [chainP_take hp, hch, ← hs4]; rfl
    have hLn : s.heap.get? L = none := hL ▸ Heap.get?_none_of_le (Nat.le_refl _)
    by_cases hcl : Clash st' c2 p.1
    · refine use_lo (resolve_ok Xg Tg (by exact F9.keep) hT8 (hc2g.fr F9) tst tc2 (by have := tst.len; omega) (by have := tc2.len; omega) ⟨pb.1, pb.2.1⟩ hcl (fun hN h10 tk10 k10 => ?_) (fun hc h10 tk10 D zs k10 tz fz mz pz => ?_)) hh (by exact hd _ (Nat.le_of_ble_eq_true rfl)) (by exact hu _ (Nat.le_of_ble_eq_true rfl))
      · have F10 := fr_call0 F9 k10
        have N10 := news_call0 N9 k10
        clear F9 N9 kk N9'
        k_steps
        rename Fr _ _ _ _ => Fe
        rename News _ _ _ _ => Ne
        have ke := led_keep hg Fe (news_tl Ne) hpi hdp hst
        refine fault_call Xg Tg (by exact Fe.keep) (by exact Nat.lt_trans hd60 (by decide)) fun h' tk e d t k f fe => ?_
        show wpAny _ _ (leaving _ (.ref e)) _ _ _
        exact leave_first (s0 := s) (W := []) (Around.frames_deeper hfr) rfl rfl FO (fun b o _ q => ke.all b o q) hLn (fun _ _ m => nomatch m) Fe.ns k f fe fun h'' R _ => hraise (chainP_dead (hstep.trans (resP_dirty hcl hN))) h'' _ e R
      · have hDn := fresh_keep kk.all fz
        obtain ⟨vz, iz, oz, hoz, hcz, nz, hdz⟩ := tz
        have hgD : g.get? D = none := fresh_of_stays F9.keep fz
        have F10 := fr_call0 F9 k10
        have N10 : News g _ h10 ((I, oI) :: (D, oz) :: ledP pr dp st nm as n0 a1 a2 a3 t1 t2 t3 t4 em) := have N := news_call0 N9 k10; news_head N (news_cons hoz (fresh_neL F9 fz) hgD (news_tl N))
        have hDI : D ≠ I := fresh_ne fz (news_pick 0 N9 rfl).1
        have hcn := rest_canon tst tc2 hc mz pz
        clear F9 N9 kk N9'
        k_steps
        rename Fr _ _ _ _ => Fe
        rename News _ _ _ _ => Ne
        exact ⟨_, _, _, _, rfl, Fe, (news_head Ne (news_and (news_from 2 Ne) (news_upto 1 (news_from 1 Ne)))), (all_app (all_upto 3 hI) (all_cons hDI all_nil)), D, zs, [(D, oz)], by rw [hstep, resP_some hcl hc, hcn], four_names rfl rfl rfl rfl, rfl, fun h' m' _ N' => ⟨vz, iz, _, (N' _ (.head _)).1, hcz, nz, hdz⟩⟩
    · refine resolve_raise Xg Tg (by exact F9.keep) (Around.frames_deeper hfr) (by exact hd60) hh (ff_push FO (by show ScopeKind.function ≠ .module; decide) rfl F9.ns fun b hb o q => kk.all b o q) hT8 (hc2g.fr F9) tst ⟨pb.1, pb.2.1⟩ hcl fun h' tk e R => ?_
      show wpAny _ _ (leaving _ (.ref e)) _ _ _
      exact leave_next (s0 := s) (W := []) (Wr := []) (Around.frames_deeper hfr) rfl FO (fun b o _ q => kk.all b o q) hLn (fun _ _ m => nomatch m) F9.ns R (fun _ m => nomatch m) fun h'' R' _ => hraise (chainP_dead (hstep.trans (resP_noclash hcl))) h'' _ e R'
  · rintro h tk m₁ _ F5 N5 ⟨a, st', extra, hch, hnm, rfl, back⟩
    rw [with_names hnm] at F5
    dsimp only [withNames] at F5
    generalize m₁ = mm at F5
    clear hnm F4 N4 m₁
    rw [List.take_of_length_le (Nat.le_refl _)] at hch
    have tst : Tid st' := chainP_tid _ (tid c1 (List.mem_of_getElem? hf3)) hch
    dsimp only [List.cons_append, List.nil_append, ledP] at N5
    k_steps
    · exfalso; omega
    rename Fr _ _ _ _ => F7
    rename News _ _ _ _ => N7
    refine PairsC.intro (fun p => p.2) rfl hh F7 N7 hlg pvg (by omega) (fun I p t u C oC m₂ h tk hp no h1 h2 F8 N8 hC => ?_) fun D zs h' tk n F8 N8 l8 iz => ?_
    · clear F7 N7
      k_steps
      exact ⟨rfl, ⟨_, rfl⟩, _, _, rfl, Keep.refl _ _⟩
    · clear F7 N7
      k_steps
      rename Fr _ _ _ _ => F9
      rename News _ _ _ _ => N9
      have hzl : zs.length = ps.length := by rw [iz.length, List.length_map]
      refine add_tups (vs := [.int first tf]) (ws := zs) F9 N9 ⟨_, (N9 _ (.tail _ (.tail _ (.head _)))).1, rfl, _, rfl⟩ ⟨_, (N9 _ (.head _)).1, rfl, _, rfl⟩ (Nat.succ_pos 0) (by omega) (by rw [hzl]; simp only [List.length_cons, List.length_nil]; omega) fun D3 h3 F10 N10 l10 => ?_
      clear F9 N9
      dsimp only at F10 N10 ⊢
      k_lt l10
      k_steps
      rename Fr _ _ _ _ => F11
      rename News _ _ _ _ => N11
      refine PairsC.intro (fun p => p.1) rfl hh F11 N11 hlg pvg (by omega) (fun I p t u C oC m₂ h tk hp no h1 h2 F8 N8 hC => ?_) fun D4 zs4 h' tk n F8 N8 l8 iz4 => ?_
      · clear F11 N11
        k_steps
        exact ⟨rfl, ⟨_, rfl⟩, _, _, rfl, Keep.refl _ _⟩
      · clear F11 N11
        k_steps
        rename Fr _ _ _ _ => F12
        rename News _ _ _ _ => N12
        have NP : News g _ _ (ledP pr dp st nm as n0 a1 a2 a3 t1 t2 t3 t4 em) := news_upto 3 (news_from 6 N12)
        have kk := led_keep hg F12 NP hpi hdp hst
        have PP := led_proof NP
        have ta : TupInts _ a st' := back _ _ F12 (news_from 9 N12)
        have tp : TupInts _ D3 (first :: ps.map (·.2)) := ⟨_ :: zs, .cons first tf iz, _, (N12 _ (.tail _ (.tail _ (.head _)))).1, rfl, _, rfl⟩
        have tv : TupInts _ _ (ps.map (·.1)) := ⟨zs4, iz4, _, (N12 _ (.head _)).1, rfl, _, rfl⟩
        refine use_lo (add_c (B := g) Xg Tg (by exact F12.keep) PP (hidden hg) (by omega) (by decide +kernel) ta tp (by have := tst.len; omega) (by rw [List.length_cons, List.length_map]; omega) (tupi_not PP ta) (tupi_not PP tp) tst.ne tst.step (all_cons ⟨hf0, hf1⟩ fun q hq => by obtain ⟨p, hp, rfl⟩ := List.mem_map.mp hq; exact ⟨(hps p hp).2.2.1, (hps p hp).2.2.2⟩) fun h' tk t a' em' k' P' fa T' => ?_) hh (by exact hd _ (Nat.le_of_ble_eq_true rfl)) (by exact hu _ (Nat.le_of_ble_eq_true rfl))
        exact hret st' hch h' tk t a' em' a D3 _ _ ((kk.mono (fun _ m => nomatch m)).trans k') P' (fresh_keep kk.all fa) T' (ta.keep k' (sd_not (tupi_not PP ta))) (tp.keep k' (sd_not (tupi_not PP tp))) (tv.keep k' (sd_not (tupi_not PP tv)))
end
end SChain
section SCmp

open PySem.SeqAt (EqAt RcAt RcNeAt) in
section
theorem ints_getElem : ∀ {vs : List Value} {xs : List Int}, IntsAre vs xs → ∀ (j : Nat) (h : j < vs.length), ∃ t, ∃ h2 : j < xs.length, vs[j] = .int xs[j] t
  | _, _, .nil, j, h => absurd h (Nat.not_lt_zero _)
  | _, _, .cons n t r, 0, _ => ⟨t, Nat.succ_pos _, rfl⟩
  | _, _, .cons n t r, j + 1, h => let ⟨u, h2, e⟩ := ints_getElem r j (Nat.lt_of_succ_lt_succ h); ⟨u, Nat.succ_lt_succ h2, e⟩
theorem all_eq_ints {xs ys : List Int} : ((List.range (min xs.length ys.length)).all (fun j => xs.getD j 0 == ys.getD j 0) && (xs.length == ys.length)) = decide (xs = ys) := by
  rw [Bool.eq_iff_iff]
  simp only [Bool.and_eq_true, List.all_eq_true, List.mem_range, beq_iff_eq, decide_eq_true_eq]
  constructor
  · rintro ⟨h1, h2⟩
    refine List.ext_getElem h2 fun i a b => ?_
    have := h1 i (Nat.lt_min.mpr ⟨a, b⟩)
    rw [List.getD_eq_getElem?_getD, List.getD_eq_getElem?_getD, List.getElem?_eq_getElem a, List.getElem?_eq_getElem b] at this
    exact this
  · rintro rfl
    exact ⟨fun _ _ => rfl, rfl⟩
theorem ints_same : ∀ {vs : List Value} {xs ys : List Int}, IntsAre vs xs → IntsAre vs ys → xs = ys
  | _, _, _, .nil, .nil => rfl
  | _, _, _, .cons _ _ r, .cons _ _ q => congrArg _ (ints_same r q)
variable {A : Around} {s : Shared} {a b : Addr} {vs ws : List Value} {xs ys : List Int}
theorem tup_items (iv : IntsAre vs xs) (iw : IntsAre ws ys) : ∀ j (h1 : j < (List.toArray vs).size) (h2 : j < (List.toArray ws).size), EqAt A s (List.toArray vs)[j] (List.toArray ws)[j] (xs.getD j 0 == ys.getD j 0) := by
  intro j h1 h2
  obtain ⟨t, p, e⟩ := ints_getElem iv j (by simpa using h1)
  obtain ⟨u, q, f⟩ := ints_getElem iw j (by simpa using h2)
  have e' : (List.toArray vs)[j] = vs[j]'(by simpa using h1) := by simp
  have f' : (List.toArray ws)[j] = ws[j]'(by simpa using h2) := by simp
  rw [e', f', e, f, List.getD_eq_getElem?_getD, List.getD_eq_getElem?_getD, List.getElem?_eq_getElem p, List.getElem?_eq_getElem q]
  exact EqAt.int_int _ _ _ _
theorem rc_tupI (ha : IsTup s.heap a vs.toArray) (iv : IntsAre vs xs) (hb : IsTup s.heap b ws.toArray) (iw : IntsAre ws ys) (hu : A.units < cLine) : RcAt A s (.ref a) (.ref b) (decide (xs = ys)) := by
  have r := RcAt.tuples (A := A) (e := fun j => xs.getD j 0 == ys.getD j 0) ha hb hu (tup_items iv iw)
  have e : ((List.range (min (List.toArray vs).size (List.toArray ws).size)).all (fun j => xs.getD j 0 == ys.getD j 0) && ((List.toArray vs).size == (List.toArray ws).size)) = decide (xs = ys) := by
    rw [List.size_toArray, List.size_toArray, iv.length, iw.length]
    exact all_eq_ints
  rw [e] at r
  exact r
theorem ne_tupI {prog : Program} {w : World} {E Q : Value → Shared → Prop} (ha : TupInts s.heap a xs) (hb : TupInts s.heap b ys) (hu : A.units < cLine) (h : Q (.bool (!decide (xs = ys))) s) : wpAny (model prog w) A (compareOp .NotEq (.ref a) (.ref b)) Q E s := by
  obtain ⟨vs, iv, ha⟩ := ha
  obtain ⟨ws, iw, hb⟩ := hb
  have r := RcNeAt.tuples (A := A) (e := fun j => xs.getD j 0 == ys.getD j 0) ha hb hu (tup_items iv iw)
  have e : ((List.range (min (List.toArray vs).size (List.toArray ws).size)).all (fun j => xs.getD j 0 == ys.getD j 0) && ((List.toArray vs).size == (List.toArray ws).size)) = decide (xs = ys) := by
    rw [List.size_toArray, List.size_toArray, iv.length, iw.length]
    exact all_eq_ints
  rw [e] at r
  exact r prog w E Q h
theorem eqat_tupI (ha : TupInts s.heap a xs) (hb : TupInts s.heap b ys) (hu : A.units < cLine) : EqAt A s (.ref a) (.ref b) (decide (xs = ys)) := by
  obtain ⟨vs, iv, ha⟩ := ha
  obtain ⟨ws, iw, hb⟩ := hb
  by_cases e : a = b
  · subst e
    have r := rc_tupI (A := A) ha iv hb iw hu
    have : xs = ys := by
      obtain ⟨o, ho, _, n, hd⟩ := ha
      obtain ⟨o', ho', _, n', hd'⟩ := hb
      rw [ho] at ho'
      cases ho'
      rw [hd] at hd'
      cases hd'
      exact ints_same iv iw
    rw [decide_eq_true this]
    exact EqAt.same _
  · exact EqAt.of_refs e (rc_tupI ha iv hb iw hu)
/-- a list held against a list, item by item -/
theorem eq_listP {prog : Program} {w : World} {E Q : Value → Shared → Prop} (ha : s.heap.IsList a vs.toArray) (hb : s.heap.IsList b ws.toArray) (hu : A.units < cLine) (r : Bool)
    (h1 : vs.length = ws.length → ∃ e : Nat → Bool, (List.range vs.length).all e = r ∧ ∀ j (p : j < vs.length) (q : j < ws.length), EqAt A.in1 s vs[j] ws[j] (e j)) (h0 : vs.length ≠ ws.length → r = false) (h : Q (.bool r) s) : wpAny (model prog w) A (compareOp .Eq (.ref a) (.ref b)) Q E s := by
  by_cases n : vs.length = ws.length
  · obtain ⟨e, er, he⟩ := h1 n
    refine PySem.SeqAt.eq_listAt (e := e) ha hb (by simpa using n) hu (fun j p q => ?_) (by rw [List.size_toArray, er]; exact h)
    simpa using he j (by simpa using p) (by simpa using q)
  · refine PySem.SeqAt.eq_list_lengthsAt ha hb (by simpa using n) hu ?_
    rw [← h0 n]
    exact h
theorem ne_listP {prog : Program} {w : World} {E Q : Value → Shared → Prop} (ha : s.heap.IsList a vs.toArray) (hb : s.heap.IsList b ws.toArray) (hu : A.units < cLine) (r : Bool)
    (h1 : vs.length = ws.length → ∃ e : Nat → Bool, (List.range vs.length).all e = r ∧ ∀ j (p : j < vs.length) (q : j < ws.length), EqAt A.in1 s vs[j] ws[j] (e j)) (h0 : vs.length ≠ ws.length → r = false) (h : Q (.bool (!r)) s) : wpAny (model prog w) A (compareOp .NotEq (.ref a) (.ref b)) Q E s := by
  by_cases n : vs.length = ws.length
  · obtain ⟨e, er, he⟩ := h1 n
    refine RcNeAt.lists (e := e) ha hb (by simpa using n) hu (fun j p q => ?_) prog w E Q (by rw [List.size_toArray, er]; exact h)
    simpa using he j (by simpa using p) (by simpa using q)
  · refine RcNeAt.lists_lengths ha hb (by simpa using n) hu prog w E Q ?_
    rw [h0 n] at h
    exact h
theorem nil_case {vs : List Value} {A : Around} {s : Shared} : (vs.length = ([] : List Value).length → ∃ e : Nat → Bool, (List.range vs.length).all e = vs.isEmpty ∧ ∀ j (p : j < vs.length) (q : j < ([] : List Value).length), EqAt A s vs[j] ([] : List Value)[j] (e j)) := by
  intro e
  have : vs = [] := List.eq_nil_of_length_eq_zero e
  subst this
  exact ⟨fun _ => true, rfl, fun j p => absurd p (Nat.not_lt_zero _)⟩
theorem eq_nilP {prog : Program} {w : World} {E Q : Value → Shared → Prop} (ha : s.heap.IsList a vs.toArray) (hb : s.heap.IsList b ([] : List Value).toArray) (hu : A.units < cLine) (h : Q (.bool vs.isEmpty) s) : wpAny (model prog w) A (compareOp .Eq (.ref a) (.ref b)) Q E s :=
  eq_listP ha hb hu vs.isEmpty nil_case (fun n => by cases vs with | nil => exact absurd rfl n | cons => rfl) h
theorem ne_nilP {prog : Program} {w : World} {E Q : Value → Shared → Prop} (ha : s.heap.IsList a vs.toArray) (hb : s.heap.IsList b ([] : List Value).toArray) (hu : A.units < cLine) (h : Q (.bool (!vs.isEmpty)) s) : wpAny (model prog w) A (compareOp .NotEq (.ref a) (.ref b)) Q E s :=
  ne_listP ha hb hu vs.isEmpty nil_case (fun n => by cases vs with | nil => exact absurd rfl n | cons => rfl) h
/-- a row held against a written row -/
theorem eqat_row {da pra vra db prb vrb : Addr} {d pr vr d' pr' vr' : List Int} {tr tr' : Tok} {k : Str} (hu : A.units + 1 < cLine) (hne : a ≠ b)
    (ha : IsTup s.heap a (List.toArray [.str k tr, .ref da, .ref pra, .ref vra])) (hb : IsTup s.heap b (List.toArray [.str k tr', .ref db, .ref prb, .ref vrb]))
    (h1 : TupInts s.heap da d) (h2 : TupInts s.heap pra pr) (h3 : TupInts s.heap vra vr) (g1 : TupInts s.heap db d') (g2 : TupInts s.heap prb pr') (g3 : TupInts s.heap vrb vr') (e1 : d = d') (e2 : pr = pr') (e3 : vr = vr') :
    EqAt A s (.ref a) (.ref b) true := by
  subst e1 e2 e3
  refine EqAt.of_refs hne ?_
  have hu1 : A.units < cLine := Nat.lt_of_succ_lt hu
  have r := RcAt.tuples (A := A) (e := fun _ => true) ha hb hu1 (fun j p q => by
    match j, p, q with
    | 0, _, _ => exact (show EqAt A.in1 s (.str k tr) (.str k tr') true by have := EqAt.str_str (A := A.in1) (s := s) k tr k tr'; rw [beq_self_eq_true] at this; exact this)
    | 1, _, _ => exact (show EqAt A.in1 s (.ref da) (.ref db) true by have := eqat_tupI (A := A.in1) h1 g1 hu; rw [decide_eq_true rfl] at this; exact this)
    | 2, _, _ => exact (show EqAt A.in1 s (.ref pra) (.ref prb) true by have := eqat_tupI (A := A.in1) h2 g2 hu; rw [decide_eq_true rfl] at this; exact this)
    | 3, _, _ => exact (show EqAt A.in1 s (.ref vra) (.ref vrb) true by have := eqat_tupI (A := A.in1) h3 g3 hu; rw [decide_eq_true rfl] at this; exact this)
    | j + 4, p, _ => exact absurd p (by simp))
  exact r
end
end SCmp
section SPin

/-- the row that a chain puts -/
inductive RowAt (h : Heap) (a : Addr) (d prs vrs : List Int) : Prop
  | mk : ∀ (da pra vra tr), IsTup h a (List.toArray [.str (Str.ofString "resolve") tr, .ref da, .ref pra, .ref vra]) → TupInts h da d → TupInts h pra prs → TupInts h vra vrs → RowAt h a d prs vrs
/-- the proof has grown by one row -/
inductive Grown (h h' : Heap) (pr dp st nm : Addr) (as : List Addr) (d prs vrs : List Int) : Prop
  | mk : ∀ (a em'), ProofAt h' pr dp st nm (as ++ [a]) em' → h.get? a = none → RowAt h' a d prs vrs → Grown h h' pr dp st nm as d prs vrs
theorem proof_notup {h : Heap} {pr dp st nm : Addr} {as : List Addr} {em : Int} (P : ProofAt h pr dp st nm as em) : ∀ b ∈ [st, dp], ∀ vs, ¬ IsTup h b vs := fun b m vs t => absurd m (sd_not (tup_not P t))
theorem notup_nil {h : Heap} : ∀ b ∈ ([] : List Addr), ∀ vs, ¬ IsTup h b vs := fun _ m => nomatch m
theorem tup_keepN {h h' : Heap} {W : List Addr} {a : Addr} {vs : Array Value} (k : Keep W h h') (n : ∀ b ∈ W, ∀ vs, ¬ IsTup h b vs) (t : IsTup h a vs) : IsTup h' a vs := let ⟨o, ho, r⟩ := id t; ⟨o, k a o (fun m => n a m vs t) ho, r⟩
theorem tupi_keepN {h h' : Heap} {W : List Addr} {a : Addr} {xs : List Int} (k : Keep W h h') (n : ∀ b ∈ W, ∀ vs, ¬ IsTup h b vs) (t : TupInts h a xs) : TupInts h' a xs := let ⟨vs, iv, t⟩ := t; ⟨vs, iv, tup_keepN k n t⟩
theorem StepAt.keepN {h h' : Heap} {W : List Addr} {a : Addr} {c : List Int} (k : Keep W h h') (n : ∀ b ∈ W, ∀ vs, ¬ IsTup h b vs) (x : StepAt h a c) : StepAt h' a c := let ⟨rv, ca, pv, nv, t, u⟩ := x; ⟨rv, ca, pv, nv, tup_keepN k n t, tupi_keepN k n u⟩
theorem StepsAt.keepN {h h' : Heap} {W : List Addr} {as : List Addr} {cls : List (List Int)} (k : Keep W h h') (n : ∀ b ∈ W, ∀ vs, ¬ IsTup h b vs) (x : StepsAt h as cls) : StepsAt h' as cls := ⟨x.len, fun i a c h1 h2 => (x.at_ i a c h1 h2).keepN k n⟩
theorem PairsAt.keepN {h h' : Heap} {pa : Addr} {ps : List (Int × Int)} (k : Keep [] h h') (x : PairsAt h pa ps) : PairsAt h' pa ps :=
  let ⟨vs, ⟨o, ho, r⟩, pv⟩ := x; ⟨vs, ⟨o, k.all _ _ ho, r⟩, pv.1, fun i p hp => let ⟨q, t, u, e, ht⟩ := pv.2 i p hp; ⟨q, t, u, e, tup_keepN k notup_nil ht⟩⟩
theorem ProofAt.keepN {h h' : Heap} {W : List Addr} {pr dp st nm : Addr} {as : List Addr} {em : Int} (k : Keep W h h') (n : ∀ b ∈ [st, pr, dp], b ∉ W) (P : ProofAt h pr dp st nm as em) : ProofAt h' pr dp st nm as em :=
  ⟨k _ _ (n _ (by simp)) P.inst, let ⟨a1, a2, a3, t1, t2, t3, t4, e⟩ := P.dict; ⟨a1, a2, a3, t1, t2, t3, t4, k _ _ (n _ (by simp)) e⟩, let ⟨m, e⟩ := P.list; ⟨m, k _ _ (n _ (by simp)) e⟩⟩
inductive LedOf (g : Heap) (L : Addr) (h : Heap) (pr dp st nm : Addr) (as : List Addr) (em : Int) (x : List (Addr × Obj)) : Prop
  | mk (n : Nat) (a1 a2 a3 : Int) (t1 t2 t3 t4 : Tok) : News g L h (ledP pr dp st nm as n a1 a2 a3 t1 t2 t3 t4 em ++ x) → LedOf g L h pr dp st nm as em x
theorem led_of {g h : Heap} {L pr dp st nm : Addr} {as : List Addr} {em : Int} (P : ProofAt h pr dp st nm as em) (hO : ∀ a ∈ [st, pr, dp], g.get? a = none) (hL : ∀ a ∈ [st, pr, dp], a ≠ L) :
    LedOf g L h pr dp st nm as em [] := by
  obtain ⟨a1, a2, a3, t1, t2, t3, t4, hd⟩ := P.dict
  obtain ⟨n, hl⟩ := P.list
  refine ⟨n, a1, a2, a3, t1, t2, t3, t4, fun q hq => ?_⟩
  rcases List.mem_cons.mp hq with rfl | hq
  · exact ⟨hl, hL _ (by simp), hO _ (by simp)⟩
  rcases List.mem_cons.mp hq with rfl | hq
  · exact ⟨P.inst, hL _ (by simp), hO _ (by simp)⟩
  rw [List.mem_singleton.mp hq]
  exact ⟨hd, hL _ (by simp), hO _ (by simp)⟩
theorem tup_left {H h' : Heap} {L a : Addr} {outer : List Env} {m : Str → Option Value} {vs : Array Value} (kx : Keep (L :: Frs outer) H h') (hn : H.Ns L m)
    (sl : ∀ a ∈ Frs outer, ∀ o, H.get? a = some o → ∃ sl, h'.get? a = some { o with slots := sl }) (t : IsTup H a vs) : IsTup h' a vs := by
  obtain ⟨o, ho, hc, n, hd⟩ := t
  by_cases mL : a = L
  · subst mL
    obtain ⟨o', es, ep, ho', hd', _⟩ := hn
    rw [ho] at ho'
    cases ho'
    rw [hd] at hd'
    cases hd'
  by_cases mF : a ∈ Frs outer
  · obtain ⟨sl, hs⟩ := sl a mF o ho
    exact ⟨_, hs, hc, n, hd⟩
  exact ⟨o, kx a o (fun mm => by rcases List.mem_cons.mp mm with q | q; exact mL q; exact mF q) ho, hc, n, hd⟩
theorem tup_map {h h' : Heap} {a : Addr} {d ps vs : List Int} (f : ∀ b us, IsTup h b us → IsTup h' b us) (t : RowAt h a d ps vs) : RowAt h' a d ps vs :=
  let ⟨q1, q2, q3, q4, t1, ⟨v2, i2, t2⟩, ⟨v3, i3, t3⟩, ⟨v4, i4, t4⟩⟩ := t; ⟨q1, q2, q3, q4, f _ _ t1, ⟨v2, i2, f _ _ t2⟩, ⟨v3, i3, f _ _ t3⟩, ⟨v4, i4, f _ _ t4⟩⟩
theorem tup_unhide {h : Heap} {L a : Addr} {m : Str → Option Value} {vs : Array Value} (hn : h.Ns L m) (t : IsTup h a vs) : IsTup (hideAll h [L]) a vs := by
  obtain ⟨o, ho, hc, n, hd⟩ := t
  refine ⟨o, hideAll_get _ ho fun mm => ?_, hc, n, hd⟩
  rw [List.mem_singleton.mp mm] at ho
  obtain ⟨o', es, ep, ho', hd', _⟩ := hn
  rw [ho] at ho'
  cases ho'
  rw [hd] at hd'
  cases hd'
theorem frs_push {env : Env} {outer : List Env} {L : Addr} (h : env.frame = some L) : Frs (env :: outer) = L :: Frs outer := by unfold Frs; rw [List.filterMap_cons, h]
/-- what stands in the base or in a ledger of its own -/
inductive Pinned (g : Heap) (L : Addr) (h : Heap) (P : Heap → Prop) : Prop
  | mk : ∀ (x), News g L h x → (∀ h' m', Fr g L h' m' → News g L h' x → P h') → Pinned g L h P
section
variable {g h : Heap} {L a : Addr} {m : Str → Option Value} {P Q : Heap → Prop}
theorem Pinned.and (p : Pinned g L h P) (q : Pinned g L h Q) : Pinned g L h (fun h => P h ∧ Q h) :=
  let ⟨x, n, f⟩ := p; let ⟨y, k, e⟩ := q
  ⟨x ++ y, fun r m => (List.mem_append.mp m).elim (n r) (k r), fun h' m' F N => ⟨f h' m' F fun r m => N r (List.mem_append_left _ m), e h' m' F fun r m => N r (List.mem_append_right _ m)⟩⟩
theorem Pinned.imp (p : Pinned g L h P) (i : ∀ h, P h → Q h) : Pinned g L h Q := let ⟨x, n, f⟩ := p; ⟨x, n, fun h' m' F N => i h' (f h' m' F N)⟩
theorem pin_true : Pinned g L h fun _ => True := ⟨[], fun _ m => (nomatch m), fun _ _ _ _ => trivial⟩
theorem pin_tup {vs : Array Value} (F : Fr g L h m) (t : IsTup h a vs) : Pinned g L h fun h => IsTup h a vs := by
  obtain ⟨o, ho, hc, n, hd⟩ := t
  cases q : g.get? a with
  | some o' =>
    have e := F.keep _ _ q
    rw [ho] at e
    cases e
    exact ⟨[], fun _ m => (nomatch m), fun h' m' F' _ => ⟨o, F'.keep _ _ q, hc, n, hd⟩⟩
  | none =>
    refine ⟨[(a, o)], fun r mm => ?_, fun h' m' _ N => ⟨o, (N _ (.head _)).1, hc, n, hd⟩⟩
    rw [List.mem_singleton.mp mm]
    refine ⟨ho, fun e => ?_, q⟩
    obtain ⟨oL, es, ep, eL, dL, _⟩ := F.ns
    rw [← show a = L from e, ho] at eL
    cases eL
    rw [hd] at dL
    cases dL
theorem pin_tupi {xs : List Int} (F : Fr g L h m) (t : TupInts h a xs) : Pinned g L h fun h => TupInts h a xs := let ⟨vs, iv, t⟩ := t; (pin_tup F t).imp fun _ t => ⟨vs, iv, t⟩
theorem pin_step {c : List Int} (F : Fr g L h m) (t : StepAt h a c) : Pinned g L h fun h => StepAt h a c :=
  let ⟨rv, ca, pv, nv, t, u⟩ := t; ((pin_tup F t).and (pin_tupi F u)).imp fun _ t => ⟨rv, ca, pv, nv, t.1, t.2⟩
theorem pin_row {d ps vs : List Int} (F : Fr g L h m) (t : RowAt h a d ps vs) : Pinned g L h fun h => RowAt h a d ps vs :=
  let ⟨da, pra, vra, tr, t, u, v, z⟩ := t; ((pin_tup F t).and ((pin_tupi F u).and ((pin_tupi F v).and (pin_tupi F z)))).imp fun _ t => ⟨da, pra, vra, tr, t.1, t.2.1, t.2.2.1, t.2.2.2⟩
theorem StepsAt.nil {h : Heap} : StepsAt h [] [] := ⟨rfl, fun i a c h1 _ => by cases h1⟩
theorem StepsAt.cons {a : Addr} {c : List Int} {as : List Addr} {cls : List (List Int)} (x : StepAt h a c) (y : StepsAt h as cls) : StepsAt h (a :: as) (c :: cls) := by
  refine ⟨by rw [List.length_cons, List.length_cons, y.len], fun i b d h1 h2 => ?_⟩
  cases i with
  | zero => cases h1; cases h2; exact x
  | succ i => exact y.at_ i b d (by simpa using h1) (by simpa using h2)
theorem StepsAt.uncons {a : Addr} {c : List Int} {as : List Addr} {cls : List (List Int)} (y : StepsAt h (a :: as) (c :: cls)) : StepAt h a c ∧ StepsAt h as cls :=
  ⟨y.at_ 0 a c rfl rfl, ⟨by have := y.len; simpa using this, fun i b d h1 h2 => y.at_ (i + 1) b d (by simpa using h1) (by simpa using h2)⟩⟩
theorem StepsAt.app {as bs : List Addr} {cls ds : List (List Int)} (x : StepsAt h as cls) (y : StepsAt h bs ds) : StepsAt h (as ++ bs) (cls ++ ds) := by
  induction as generalizing cls with
  | nil => cases cls with
    | nil => exact y
    | cons => have := x.len; cases this
  | cons a as ih => cases cls with
    | nil => have := x.len; cases this
    | cons c cls => exact StepsAt.cons x.uncons.1 (ih x.uncons.2)
theorem pin_steps {as : List Addr} {cls : List (List Int)} (F : Fr g L h m) (x : StepsAt h as cls) : Pinned g L h fun h => StepsAt h as cls := by
  induction as generalizing cls with
  | nil => cases cls with
    | nil => exact pin_true.imp fun _ _ => .nil
    | cons => have := x.len; cases this
  | cons a as ih => cases cls with
    | nil => have := x.len; cases this
    | cons c cls => exact ((pin_step F x.uncons.1).and (ih x.uncons.2)).imp fun _ t => StepsAt.cons t.1 t.2
theorem RowAt.step {d ps vs : List Int} (t : RowAt h a d ps vs) : StepAt h a d := let ⟨da, pra, vra, tr, t, u, _, _⟩ := t; ⟨_, da, _, _, t, u⟩
theorem RowAt.keepN {h h' : Heap} {W : List Addr} {a : Addr} {d ps vs : List Int} (k : Keep W h h') (n : ∀ b ∈ W, ∀ vs, ¬ IsTup h b vs) (t : RowAt h a d ps vs) : RowAt h' a d ps vs :=
  let ⟨da, pra, vra, tr, t, u, v, z⟩ := t; ⟨da, pra, vra, tr, tup_keepN k n t, tupi_keepN k n u, tupi_keepN k n v, tupi_keepN k n z⟩
theorem led_ofx {pr dp st nm : Addr} {as : List Addr} {em : Int} {x : List (Addr × Obj)} (P : ProofAt h pr dp st nm as em) (hO : ∀ a ∈ [st, pr, dp], g.get? a = none) (hL : ∀ a ∈ [st, pr, dp], a ≠ L) (X : News g L h x) :
    LedOf g L h pr dp st nm as em x :=
  let ⟨n, a1, a2, a3, t1, t2, t3, t4, N⟩ := led_of P hO hL; ⟨n, a1, a2, a3, t1, t2, t3, t4, fun q m => (List.mem_append.mp m).elim (N q) (X q)⟩
end
end SPin
theorem word21 : True := by
  k_with_none
  k_with "call builtin:len" => (k_here; (with_reducible show wpAny _ _ (call (Value.builtin "len") [Value.ref _]) _ _ _); (with_unfolding_all refine' len_tupI ?k1 ?k2 ?k3 ?_; (case k1 => first | assumption | exact Fr.tup (by assumption) (by assumption)); (case k2 => l_ints); (case k3 => l_fit); k_whole))
  k_with "call builtin:len" => (k_here; (with_reducible show wpAny _ _ (call (Value.builtin "len") [Value.ref _]) _ _ _); (with_unfolding_all refine' len_lst ?k1 ?k3 ?_; (case k1 => exact News.isList (by k_asm) (by k_mem)); (case k3 => (simp only [List.length_map]; omega)); k_whole))
  k_with "subscriptTail" => (k_here; (with_reducible show wpAny _ _ (subscriptTail _ _ (Value.ref _) (Value.int _ _)) _ _ _); (with_unfolding_all refine' item_tuple_ints ?k1 ?k2 ?k3 ?k4 ?k5 ?_ ?k6 ?k7; (case k1 => first | assumption | exact Fr.tup (by assumption) (by assumption)); (case k2 => l_ints); (case k3 => omega); (case k4 => omega); (case k5 => omega); (case k6 => with_unfolding_all rfl); (case k7 => (intro _; with_unfolding_all rfl)); k_whole); intro _)
  k_with "subscriptTail" => (k_here; (with_reducible show wpAny _ _ (subscriptTail _ _ (Value.ref _) (Value.int _ _)) _ _ _); (with_unfolding_all refine' item_listR ?k1 ?k2 ?k3 ?k4 ?_ ?k6; (case k4 => assumption); (case k1 => exact News.isList (by k_asm) (by k_mem)); (case k2 => omega); (case k3 => omega); (case k6 => with_unfolding_all rfl); k_whole))
  k_with "exec For Name Name cons nil" => (k_here; (rename Fr _ _ _ _ => lF'); (with_unfolding_all refine' for_walksF lF' ?k1 ?k2 ?_; (case k1 => exact rfl); (case k2 => exact rfl); k_whole))
  k_with "exec For Name Call cons nil" => (k_here; (rename Fr _ _ _ _ => lF'); (with_unfolding_all refine' for_walksF lF' ?k1 ?k2 ?_; (case k1 => exact rfl); (case k2 => exact rfl); k_whole))
  trivial
section SLogC
theorem word22 : True := by
  k_with "exec Raise some none" => (k_here; k_dflt (refine' raise_fault ?k1 ?_; (case k1 => first | assumption | rfl); k_whole))
  trivial
/-- a search and its proof -/
inductive SearchD (h : Heap) (dc : Addr) (pv : Value) : Prop
  | mk (es : List DictEntry) (n : Nat) : h.get? dc = some (dictOf es n) → getL (Str.ofString "proof") es = some (some pv) → getL (Str.ofString "log_chain") es = some none → SearchD h dc pv
structure SearchAt (h : Heap) (core dc : Addr) (pv : Value) : Prop where
  inst : h.get? core = some (instObj 553 dc)
  dict : SearchD h dc pv
theorem inst_base {g h : Heap} {L x dx C : Addr} {m : Str → Option Value} {od : Obj} (F : Fr g L h m) (h1 : g.get? x = some (instObj C dx)) (h2 : g.get? dx = some od) : InstAt h x (instObj C dx) C (some od) := ⟨F.keep _ _ h1, rfl, rfl, F.keep _ _ h2⟩
theorem word23 : True := by
  k_with "getAttr ref" => (k_here; k_dflt (refine' get_own ?k1 ?k2 ?k3 ?k4 ?k5 ?k6 ?k7 ?k8 ?k9 ?_; (case k1 => k_asm); (case k2 => k_asm); (case k3 => exact inst_base (by k_asm) (by assumption) (by assumption)); (case k4 => k_is); (case k5 => k_is); (case k6 => k_is); (case k7 => k_is); (case k8 => assumption); (case k9 => k_handed); k_whole))
  trivial
theorem search_not {h : Heap} {core dc pr dp st nm : Addr} {pv : Value} {as : List Addr} {em : Int} (P : ProofAt h pr dp st nm as em) (S : SearchAt h core dc pv) : core ∉ [st, pr, dp] := by
  obtain ⟨a1, a2, a3, t1, t2, t3, t4, h2⟩ := P.dict
  obtain ⟨n, h3⟩ := P.list
  have h1 := P.inst
  have ho := S.inst
  simp only [List.mem_cons, List.not_mem_nil, or_false, not_or]
  refine ⟨?_, ?_, ?_⟩ <;> rintro rfl
  · rw [h3] at ho; exact absurd (show Value.type "list" = Value.ref 553 from congrArg Obj.cls (Option.some.inj ho)) (by decide)
  · rw [h1] at ho; exact absurd (show Value.ref 705 = Value.ref 553 from congrArg Obj.cls (Option.some.inj ho)) (by decide)
  · rw [h2] at ho; exact absurd (show Value.type "dict" = Value.ref 553 from congrArg Obj.cls (Option.some.inj ho)) (by decide)
theorem search_dict {h : Heap} {dc pr dp st nm : Addr} {as : List Addr} {em : Int} {es : List DictEntry} {n : Nat} (P : ProofAt h pr dp st nm as em) (hd : h.get? dc = some (dictOf es n)) (hdc : dc ≠ dp) : dc ∉ [st, pr, dp] := by
  obtain ⟨m, hst⟩ := P.list
  have hpi := P.inst
  simp only [List.mem_cons, List.not_mem_nil, or_false, not_or]
  refine ⟨?_, ?_, hdc⟩ <;> rintro rfl
  · rw [hst] at hd; exact absurd (show Value.type "list" = Value.type "dict" from congrArg Obj.cls (Option.some.inj hd)) (by decide)
  · rw [hpi] at hd; exact absurd (show Value.ref 705 = Value.type "dict" from congrArg Obj.cls (Option.some.inj hd)) (by decide)
section
variable {w : World} {mean : ExcName → Option Value} {mg mb : Str → Option Value} {B : Heap} {s : Shared} {Q E : Value → Shared → Prop} {core dc pr dp st nm pa cl : Addr} {as : List Addr} {em : Int} {cls : List (List Int)} {ps : List (Int × Int)} {c : List Int}
theorem log_plain_c (X : (Mine.hd.heap_39 w.params).In B) (T : Tp mean mg mb B) (hB : B.StaysIn s.heap) (SA : SearchAt s.heap core dc .none) {first : Int} {tf : Tok}
    (hret : ∀ h' tk, Keep [] s.heap h' → Q (.int first tf) { s with heap := h', toks := tk }) :
    wpAny (model PySem.Challenge.rw_rg0222_01.row.prog w) (lo 690 4900) (call (.ref 438) [.ref core, .ref cl, .int first tf, .ref pa]) Q E s := by
  refine wpAny_call ?_
  k_dflt (refine' enter (binds := [(Str.ofString "self", .ref core), (Str.ofString "clause", .ref cl), (Str.ofString "first", .int first tf), (Str.ofString "pairs", .ref pa)]) [] X T.nolimit hB (by simp) ?k6 ?k7 ?k8 ?k9 ?kB ?_ ?c5 ?c2 ?c3 ?c4; (case k6 => k_is); (case k7 => k_is); (case k8 => decide); (case k9 => exact BindsTo.of_eq rfl); (case kB => exact locs rfl); (case c5 => decide); (case c2 => exact rfl); (case c3 => exact rfl); (case c4 => exact rfl))
  intro g L h₁ hg hL F hk₁ sg Xg
  have Tg := T.keeps sg
  have N : News g L h₁ [] := fun _ m => nomatch m
  have ci := hide1 hg SA.inst (fun m => nomatch m)
  obtain ⟨es, n, hd, hp, hl⟩ := SA.dict
  have cd := hide1 hg hd (fun m => nomatch m)
  refine wpAny_mono (E := fun _ _ => False) ?_ (fun _ _ h => h) (fun _ _ h => h.elim)
  k_fold
  k_steps
  exact hret _ _ (Keep.of_all hk₁)

theorem log_c {A : Around} {outer : List Env} (X : (Mine.hd.heap_39 w.params).In B) (T : Tp mean mg mb B) (hB : B.StaysIn s.heap) (hfr : A.frames = some outer) (hA : A.depth < 490) (hU : A.units ≤ 3990) (hh : A.handled = none) (FO : FrsOk s.heap outer)
    (SA : SearchAt s.heap core dc (.ref pr)) (hdc : dc ≠ dp) (P : ProofAt s.heap pr dp st nm as em) (hO : ∀ a ∈ [st, pr, dp], B.get? a = none) (hFr : ∀ a ∈ Frs outer, a ∉ [st, pr, dp]) (S : StepsAt s.heap as cls) (hlen : as.length < 190) (tid : ∀ c ∈ cls, Tid c)
    (hPA : PairsAt s.heap pa ps) (hpa : pa ≠ st) (hpl : ps.length < 100) (hps : ∀ p ∈ ps, 1 ≤ p.1 ∧ p.1 ≤ 5 ∧ 0 ≤ p.2 ∧ p.2 < as.length) {first : Int} {tf : Tok} (hf0 : 0 ≤ first) (hf1 : first < as.length) (hc : TupInts s.heap cl c)
    (hret0 : ps = [] → ∀ h' tk, Keep [] s.heap h' → Q (.int first tf) { s with heap := h', toks := tk })
    (hret1 : ps ≠ [] → chainP cls (some (cls.getD first.toNat [])) ps = some c → ∀ h' tk t, Keep [st, dp] s.heap h' → Grown s.heap h' pr dp st nm as c (first :: ps.map (·.2)) (ps.map (·.1)) → Q (.int (as.length : Nat) t) { s with heap := h', toks := tk })
    (hraise1 : ∀ d, ps ≠ [] → chainP cls (some (cls.getD first.toNat [])) ps = some d → c ≠ d → ∀ H h' tk e, Keep [st, dp] s.heap H → RaisedC H [] outer e h' → Grown s.heap H pr dp st nm as d (first :: ps.map (·.2)) (ps.map (·.1)) → E (.ref e) { s with heap := h', toks := tk })
    (hraise0 : ps ≠ [] → chainP cls (some (cls.getD first.toNat [])) ps = none → ∀ h' tk e, RaisedC s.heap [] outer e h' → E (.ref e) { s with heap := h', toks := tk }) :
    wpAny (model PySem.Challenge.rw_rg0222_01.row.prog w) A (call (.ref 438) [.ref core, .ref cl, .int first tf, .ref pa]) Q E s := by
  have hroom : A.depth < recursionLimit := Nat.lt_of_lt_of_le hA (Nat.le_of_ble_eq_true rfl)
  obtain ⟨d1, d2, d3⟩ := P.ne
  have e1 := neN d1
  have e2 := neN d2
  have e3 := neN d3
  obtain ⟨a1, a2, a3, t1, t2, t3, t4, hdp⟩ := P.dict
  obtain ⟨n0, hst⟩ := P.list
  have hpi := P.inst
  refine wpAny_call ?_
  k_dflt (refine' enter (binds := [(Str.ofString "self", .ref core), (Str.ofString "clause", .ref cl), (Str.ofString "first", .int first tf), (Str.ofString "pairs", .ref pa)]) [st, pr, dp] X T.nolimit hB hO ?k6 ?k7 ?k8 ?k9 ?kB ?_ ?c5 ?c2 ?c3 ?c4; (case k6 => k_is); (case k7 => k_is); (case k8 => exact hroom); (case k9 => exact BindsTo.of_eq rfl); (case kB => exact locs rfl); (case c5 => decide); (case c2 => exact rfl); (case c3 => exact rfl); (case c4 => exact rfl))
  intro g L h₁ hg hL F hk₁ sg Xg
  have Tg := T.keeps sg
  have N := ProofAt.news hL hk₁ hg hpi hdp hst
  have ci := hide1 hg SA.inst (search_not P SA)
  obtain ⟨es, n, hd, hp, hl⟩ := SA.dict
  have cd := hide1 hg hd (by
    simp only [List.mem_cons, List.not_mem_nil, or_false, not_or]
    refine ⟨?_, ?_, hdc⟩ <;> rintro rfl
    · rw [hst] at hd; exact absurd (show Value.type "list" = Value.type "dict" from congrArg Obj.cls (Option.some.inj hd)) (by decide)
    · rw [hpi] at hd; exact absurd (show Value.ref 705 = Value.type "dict" from congrArg Obj.cls (Option.some.inj hd)) (by decide))
  obtain ⟨vps, hlp, pv⟩ := id hPA
  have hpaW : pa ∉ [st, pr, dp] := by
    obtain ⟨o, ho, hc, _⟩ := hlp
    simp only [List.mem_cons, List.not_mem_nil, or_false, not_or]
    refine ⟨hpa, ?_, ?_⟩ <;> rintro rfl
    · rw [hpi] at ho; cases ho; exact absurd (show Value.ref 705 = Value.type "list" from hc) (by decide)
    · rw [hdp] at ho; cases ho; exact absurd (show Value.type "dict" = Value.type "list" from hc) (by decide)
  have hlg : g.IsList pa vps.toArray := let ⟨o, ho, r⟩ := hlp; ⟨o, hide1 hg ho hpaW, r⟩
  have hvl : vps.length = ps.length := pv.1
  obtain ⟨vc, ic, tc⟩ := id hc
  have tcg : IsTup g cl vc.toArray := hideT hg tc (tup_not P tc)
  have hLn : s.heap.get? L = none := hL ▸ Heap.get?_none_of_le (Nat.le_refl _)
  refine wpAny_mono ?_ (fun _ _ h => h) (fun _ _ h => h)
  k_fold
  k_steps
  rename Fr _ _ _ _ => F2
  rename News _ _ _ _ => N2
  refine eq_nilP (fr_list F2 hlg) (News.isList N2 (.head _)) (by show A.units + 3 < 9900; omega) ?_
  by_cases hne : ps = []
  · have hvn : vps.isEmpty = true := by rw [List.isEmpty_iff_length_eq_zero, hvl, hne]; rfl
    rw [hvn]
    k_steps
    rename Fr _ _ _ _ => F3
    rename News _ _ _ _ => N3
    exact hret0 hne _ _ (led_keep hg F3 (fun q hq => N3 q (.tail _ hq)) hpi hdp hst)
  · have hvn : vps.isEmpty = false := by
      cases vps with
      | nil => exact absurd (List.eq_nil_of_length_eq_zero hvl.symm) hne
      | cons => rfl
    have hps0 : 0 < ps.length := List.length_pos_iff.mpr hne
    rw [hvn]
    k_steps
    rename Fr _ _ _ _ => F3
    rename News _ _ _ _ => N3
    have N3' : News g _ _ (ledP pr dp st nm as n0 a1 a2 a3 t1 t2 t3 t4 em) := fun q hq => N3 q (.tail _ hq)
    have kk := led_keep hg F3 N3' hpi hdp hst
    have hLp : ∀ a ∈ [st, pr, dp], a ≠ L := fun a m e => by
      subst e
      simp only [List.mem_cons, List.not_mem_nil, or_false] at m
      rcases m with rfl | rfl | rfl
      · rw [hst] at hLn; cases hLn
      · rw [hpi] at hLn; cases hLn
      · rw [hdp] at hLn; cases hLn
    refine chain_c Xg Tg (by exact F3.keep) (Around.frames_deeper hfr) (by show A.depth + 1 < 500; omega) (by show A.units + 3 ≤ 4000; omega) hh (ff_push FO (by show ScopeKind.function ≠ .module; decide) rfl F3.ns fun b hb o q => kk.all b o q) (led_proof N3') (hidden hg) (fun a m => ?_) (S.keepN kk notup_nil) (by omega) tid (hPA.keepN kk) hpa hps0 hpl hps hf0 hf1
      (fun d hd h4 tk4 t4 a em' da pra vra tr k4 P4 fa ht h5 h6 h7 => ?_) (fun hd h4 tk4 e R => ?_)
    · rw [frs_push rfl] at m
      rcases List.mem_cons.mp m with q | q
      · exact fun mm => hLp a mm q
      · exact hFr a q
    · have F4 := fr_call F3 k4 (fun m => hLp L (by simp only [List.mem_cons, List.not_mem_nil, or_false] at m ⊢; rcases m with m | m; exact .inl m; exact .inr (.inr m)) rfl) (fun a m => hidden hg a (by simp only [List.mem_cons, List.not_mem_nil, or_false] at m ⊢; rcases m with m | m; exact .inl m; exact .inr (.inr m)))
      obtain ⟨x, NX, back⟩ := pin_row F4 ⟨da, pra, vra, tr, ht, h5, h6, h7⟩
      obtain ⟨n4, b1, b2, b3, u1, u2, u3, u4, N4⟩ := led_ofx P4 (hidden hg) hLp NX
      have kk4 : Keep [st, dp] s.heap h4 := (kk.mono (fun _ m => nomatch m)).trans k4
      have fa4 := fresh_keep kk.all fa
      clear F3 N3 N3' kk NX
      k_steps
      rename Fr _ _ _ _ => F5
      rename News _ _ _ _ => N5
      obtain ⟨db, prb, vrb, tb, rb, rb1, rb2, rb3⟩ := back _ _ F5 fun q m => N5 q (List.mem_append_right _ m)
      refine use_lo (clause_c Xg Tg (by exact F5.keep) (led_proof fun q m => N5 q (List.mem_append_left _ m)) (hidden hg) (by rw [List.length_append]; show as.length + 1 < 1000; omega) (i := (as.length : Nat)) (Int.natCast_nonneg _) (by show (as ++ [a])[as.length]? = some a; rw [List.getElem?_append_right (Nat.le_refl _), Nat.sub_self]; rfl) rb (tup_not (led_proof fun q m => N5 q (List.mem_append_left _ m)) rb) fun h6 tk6 k6 => ?_) hh (by show A.depth + 1 ≤ 700; omega) (by show A.units + 3 ≤ 5000; omega)
      have F6 := fr_call0 F5 k6
      have N6 := news_call0 N5 k6
      have rb1' := tupi_keepN k6 notup_nil rb1
      clear F5 N5 rb rb1 rb2 rb3
      k_steps
      refine ne_tupI rb1' ⟨vc, ic, F6.tup tcg⟩ (by show A.units + 3 < 9900; omega) ?_
      have kst : ∀ {h' : Heap} {m' : Str → Option Value}, Fr g L h' m' → News g L h' (ledP pr dp st nm (as ++ [a]) n4 b1 b2 b3 u1 u2 u3 u4 em' ++ x) → Keep [st, dp] s.heap h' := fun F N => (Keep.of_base hg F.keep).shrink fun b m => by
        simp only [List.mem_cons, List.not_mem_nil, or_false] at m
        rcases m with rfl | rfl | rfl
        · simp
        · exact .inr (same_of hpi (N _ (.tail _ (.head _))).1)
        · simp
      by_cases e : d = c
      · rw [decide_eq_true e, Bool.not_true]
        clear rb1'
        k_steps
        rename Fr _ _ _ _ => F7
        rename News _ _ _ _ => N7
        subst e
        exact hret1 hne hd _ _ _ (kst F7 N7) ⟨a, em', led_proof fun q m => N7 q (List.mem_append_left _ m), fa4, back _ _ F7 fun q m => N7 q (List.mem_append_right _ m)⟩
      · rw [decide_eq_false e, Bool.not_false]
        clear rb1'
        k_steps
        rename Fr _ _ _ _ => F7
        rename News _ _ _ _ => N7
        refine fault_call Xg Tg (by exact F7.keep) (by show A.depth + 1 < 700; omega) fun h' tk e' dd t k f fe => ?_
        show wpAny _ _ (leaving _ (.ref e')) _ _ _
        have k7 := kst F7 N7
        have R7 := back _ _ F7 fun q m => N7 q (List.mem_append_right _ m)
        have P7 := led_proof fun q m => N7 q (List.mem_append_left _ m)
        have hFs : ∀ a ∈ Frs outer, a ∉ [st, dp] := fun a m => sd_not (hFr a m)
        have hLF : L ∉ Frs outer := fun m => by
          obtain ⟨o, ho, _⟩ := ff_obj FO m
          rw [ho] at hLn; cases hLn
        have kH : Keep [st, dp] s.heap (hideAll _ [L]) := fun b o n q => hideAll_get _ (k7 b o n q) fun mm => by rw [List.mem_singleton.mp mm, hLn] at q; cases q
        have FOH : FrsOk (hideAll _ [L]) outer := ff_rebase (ff_keep FO fun z mz o q => kH z o (hFs z mz) q) fun a ha => hideAll_none _ ha
        refine leave_first (s0 := { s with heap := hideAll _ [L] }) (W := []) (Around.frames_deeper hfr) rfl rfl FOH (fun b o n q => of_hideAll _ q) (hideAll_none _ (.head _)) (fun _ _ => List.not_mem_nil) F7.ns k f fe fun h'' R kx => ?_
        exact hraise1 d hne hd (fun q => e q.symm) _ h'' _ e' kH R ⟨a, em', ⟨hideAll_get _ P7.inst fun mm => hLp _ (by simp) (List.mem_singleton.mp mm), let ⟨a1, a2, a3, t1, t2, t3, t4, q⟩ := P7.dict; ⟨a1, a2, a3, t1, t2, t3, t4, hideAll_get _ q fun mm => hLp _ (by simp) (List.mem_singleton.mp mm)⟩, let ⟨n, q⟩ := P7.list; ⟨n, hideAll_get _ q fun mm => hLp _ (by simp) (List.mem_singleton.mp mm)⟩⟩, fa4, tup_map (fun b us t => tup_unhide F7.ns t) R7⟩
    · show wpAny _ _ (leaving _ (.ref e)) _ _ _
      exact leave_next (s0 := s) (W := []) (Wr := []) (Around.frames_deeper hfr) rfl FO (fun b o _ q => kk.all b o q) hLn (fun _ _ m => nomatch m) F3.ns R (fun _ m => nomatch m) fun h'' R' _ => hraise0 hne hd h'' _ e R'
end
end SLogC
theorem word25 : True := by
  k_with_none
  k_with "call builtin:len" => (k_here; (with_reducible show wpAny _ _ (call (Value.builtin "len") [Value.ref _]) _ _ _); (with_unfolding_all refine' len_tupI ?k1 ?k2 ?k3 ?_; (case k1 => first | assumption | exact Fr.tup (by assumption) (by assumption)); (case k2 => l_ints); (case k3 => l_fit); k_whole))
  k_with "call builtin:len" => (k_here; (with_reducible show wpAny _ _ (call (Value.builtin "len") [Value.ref _]) _ _ _); (with_unfolding_all refine' len_lst ?k1 ?k3 ?_; (case k1 => exact News.isList (by k_asm) (by k_mem)); (case k3 => (simp only [List.length_map]; omega)); k_whole))
  k_with "subscriptTail" => (k_here; (with_reducible show wpAny _ _ (subscriptTail _ _ (Value.ref _) (Value.int _ _)) _ _ _); (with_unfolding_all refine' item_tuple_ints ?k1 ?k2 ?k3 ?k4 ?k5 ?_ ?k6 ?k7; (case k1 => first | assumption | exact Fr.tup (by assumption) (by assumption)); (case k2 => l_ints); (case k3 => omega); (case k4 => omega); (case k5 => omega); (case k6 => with_unfolding_all rfl); (case k7 => (intro _; with_unfolding_all rfl)); k_whole); intro _)
  k_with "subscriptTail" => (k_here; (with_reducible show wpAny _ _ (subscriptTail _ _ (Value.ref _) (Value.int _ _)) _ _ _); (with_unfolding_all refine' item_listR ?k1 ?k2 ?k3 ?k4 ?_ ?k6; (case k4 => assumption); (case k1 => exact News.isList (by k_asm) (by k_mem)); (case k2 => omega); (case k3 => omega); (case k6 => with_unfolding_all rfl); k_whole))
  k_with "exec For Name Name cons nil" => (k_here; (rename Fr _ _ _ _ => lF'); (with_unfolding_all refine' for_walksF lF' ?k1 ?k2 ?_; (case k1 => exact rfl); (case k2 => exact rfl); k_whole))
  k_with "exec For Name Call cons nil" => (k_here; (rename Fr _ _ _ _ => lF'); (with_unfolding_all refine' for_walksF lF' ?k1 ?k2 ?_; (case k1 => exact rfl); (case k2 => exact rfl); k_whole))
  trivial
section STold
theorem word26 : True := by
  k_with "getMethod ref" => (k_here; k_dflt (refine' method_inst ?k1 ?k2 ?k3 ?k4 ?k5 ?k6 ?k7 ?_; (case k1 => k_asm); (case k2 => k_asm); (case k3 => exact inst_base (by k_asm) (by assumption) (by assumption)); (case k4 => k_is); (case k5 => k_is); (case k6 => k_is); (case k7 => assumption); k_whole))
  trivial
structure Kept (h : Heap) (W : List Addr) (outer : List Env) (h' : Heap) : Prop where
  keep : Keep (W ++ Frs outer) h h'
  slots : ∀ a ∈ Frs outer, ∀ o, h.get? a = some o → ∃ sl, h'.get? a = some { o with slots := sl }
theorem Grown.pull {h0 h h' : Heap} {pr dp st nm : Addr} {as : List Addr} {d ps vs : List Int} (k : Keep [] h0 h) (G : Grown h h' pr dp st nm as d ps vs) : Grown h0 h' pr dp st nm as d ps vs := let ⟨a, em, P, f, r⟩ := G; ⟨a, em, P, fresh_keep k.all f, r⟩
theorem caught_fault {w : World} {mean : ExcName → Option Value} {mg mb : Str → Option Value} {A : Around} {s₁ : Shared} {g H : Heap} {outer : List Env} {L e a : Addr} {m : Str → Option Value} {W : List Addr} {name : Str} {scope : Scope} {cd : Value} {cl : List (Str × Addr)} {Q : Flow → Shared → Prop} {E : Value → Shared → Prop} {b₀ : Stmt} {suite : List Stmt} {pos np : Pos}
    (X : (Mine.hd.heap_39 w.params).In g) (T : Tp mean mg mb g) (hfr : A.frames = some (envX name scope L a cd cl :: outer)) (R : RaisedC H W (envX name scope L a cd cl :: outer) e s₁.heap) (F : Fr g L H m) (hgW : ∀ a ∈ W ++ Frs outer, g.get? a = none)
    (hLW : L ∉ W ++ Frs outer)
    (h : ∀ h', Fr g L h' m → Keep (W ++ (L :: Frs outer)) H h' → (∀ a ∈ Frs outer, ∀ o, H.get? a = some o → ∃ sl, h'.get? a = some { o with slots := sl }) → wpAny (model prog1 w) (A.mark (some (.ref e))) (execs (b₀ :: suite) (envX name scope L a cd cl)) Q (fun _ _ => False) { s₁ with heap := h' })
    (hname : ∀ (s₂ : Shared) (Q E : Value → Shared → Prop), Fr g L s₂.heap m → Q (.ref 76) s₂ → wpAny (model prog1 w) (A.mark (some (.ref e))) (eval (.Name (Str.ofString "ProofFault") np) (envX name scope L a cd cl)) Q E s₂) :
    wpAny (model prog1 w) A (noteFrame (.ref e) (envX name scope L a cd cl)) (fun _ s₂ => wpAny (model prog1 w) A (setFlight (.ref e) none) (fun _ s₃ =>
        wpAny (model prog1 w) A (handleBy (.ref e) (envX name scope L a cd cl) [.ExceptHandler (some (.Name (Str.ofString "ProofFault") np)) none (b₀ :: suite) pos]) Q E s₃) E s₂) E s₁ := by
  obtain ⟨⟨t, fly⟩, slots⟩ := R
  have hfrs : Frs (envX name scope L a cd cl :: outer) = L :: Frs outer := frs_push rfl
  have base : ∀ {h'}, (hideAll H (W ++ Frs (envX name scope L a cd cl :: outer))).StaysIn h' → Keep (W ++ (L :: Frs outer)) H h' := fun st b o n q => st b o (hideAll_get _ q (hfrs ▸ n))
  have ffs := fly.2.2.1
  refine wpAny_looks_onW hfr rfl fly fun h₄ hheld₄ hsm₄ => ?_
  refine wpAny_landsW hheld₄ fun h₅ hheld hsm₅' => ?_
  have hsm₅ := hsm₄.trans hsm₅'
  have slotsAll : ∀ {h'}, s₁.heap.UpToSlots h' → ∀ a ∈ L :: Frs outer, ∀ o, H.get? a = some o → ∃ sl, h'.get? a = some { o with slots := sl } := fun hs a ma o q => by
    obtain ⟨sl, e1⟩ := slots a (hfrs ▸ ma) o q
    obtain ⟨_, o', ho', hd'⟩ := ffs.mem (hfrs ▸ ma)
    rw [e1] at ho'
    cases ho'
    obtain ⟨sl', e2⟩ := hs a _ e1 hd'
    exact ⟨sl', e2⟩
  have frame : ∀ {h'}, (hideAll H (W ++ Frs (envX name scope L a cd cl :: outer))).StaysIn h' → s₁.heap.UpToSlots h' → Fr g L h' m := fun {h'} st hs => by
    obtain ⟨o, es, ep, ho, r⟩ := F.ns
    obtain ⟨sl, e1⟩ := slotsAll hs L (.head _) o ho
    refine ⟨⟨_, es, ep, e1, r⟩, fun b o q => base st b o (fun mm => ?_) (F.keep _ _ q), F.above⟩
    rcases List.mem_append.mp mm with z | z
    · rw [hgW b (List.mem_append_left _ z)] at q; cases q
    · rcases List.mem_cons.mp z with z | z
      · subst z
        exact absurd (Heap.lt_size q) (Nat.not_lt.mpr F.above)
      · rw [hgW b (List.mem_append_right _ z)] at q; cases q
  have F₅ := frame hheld.1 hsm₅
  obtain ⟨ob, hob, hobc⟩ := hheld.there
  obtain ⟨nm, q, bs, sub, k0, k1, k2, k3, k5, dd, hC⟩ := exc_cls (X.keeps F₅.keep)
  refine wpAny_handleBy_cons (codeAny_handlers_test (hname _ _ _ F₅ ?_)) (by intro q; cases q)
  refine wpAny_excMatches_sub_self hC hob hobc (by decide) (codeAny_handlers_suite ?_)
  refine lands_againW hheld fun h₆ hfl₆ hsm₆ => ?_
  have hsm := hsm₅.trans hsm₆
  exact wpAny_mono (h h₆ (frame hfl₆.1 hsm) (base hfl₆.1) fun z mz o q => slotsAll hsm z (.tail _ mz) o q) (fun _ _ x => x) fun _ _ x => x.elim
section
variable {w : World} {mean : ExcName → Option Value} {mg mb : Str → Option Value} {B : Heap} {s : Shared} {Q E : Value → Shared → Prop} {core dc pr dp st nm pa cl : Addr} {as : List Addr} {em : Int} {cls : List (List Int)} {ps : List (Int × Int)} {c : List Int}
theorem told_c {A : Around} {outer : List Env} (X : (Mine.hd.heap_39 w.params).In B) (T : Tp mean mg mb B) (hB : B.StaysIn s.heap) (hfr : A.frames = some outer) (hA : A.depth < 480) (hU : A.units ≤ 3980) (hh : A.handled = none) (FO : FrsOk s.heap outer)
    (SA : SearchAt s.heap core dc (.ref pr)) (hdc : dc ≠ dp) (hcF : core ∉ Frs outer ∧ dc ∉ Frs outer) (P : ProofAt s.heap pr dp st nm as em) (hO : ∀ a ∈ [st, pr, dp], B.get? a = none) (hOF : ∀ a ∈ Frs outer, B.get? a = none) (hFr : ∀ a ∈ Frs outer, a ∉ [st, pr, dp]) (S : StepsAt s.heap as cls) (hlen : as.length < 190) (tid : ∀ c ∈ cls, Tid c)
    (hPA : PairsAt s.heap pa ps) (hpa : pa ≠ st) (hpl : ps.length < 100) (hps : ∀ p ∈ ps, 1 ≤ p.1 ∧ p.1 ≤ 5 ∧ 0 ≤ p.2 ∧ p.2 < as.length) {first : Int} {tf : Tok} (hf0 : 0 ≤ first) (hf1 : first < as.length) (hc : TupInts s.heap cl c)
    (hret0 : ps = [] → ∀ h' tk, Keep [] s.heap h' → Q (.int first tf) { s with heap := h', toks := tk })
    (hret1 : ps ≠ [] → chainP cls (some (cls.getD first.toNat [])) ps = some c → ∀ h' tk t, Keep [st, dp] s.heap h' → Grown s.heap h' pr dp st nm as c (first :: ps.map (·.2)) (ps.map (·.1)) → Q (.int (as.length : Nat) t) { s with heap := h', toks := tk })
    (hretN1 : ∀ d, ps ≠ [] → chainP cls (some (cls.getD first.toNat [])) ps = some d → c ≠ d → ∀ h' tk, Kept s.heap [st, dp] outer h' → Grown s.heap h' pr dp st nm as d (first :: ps.map (·.2)) (ps.map (·.1)) → Q .none { s with heap := h', toks := tk })
    (hretN0 : ps ≠ [] → chainP cls (some (cls.getD first.toNat [])) ps = none → ∀ h' tk, Kept s.heap [] outer h' → Q .none { s with heap := h', toks := tk }) :
    wpAny (model PySem.Challenge.rw_rg0222_01.row.prog w) A (call (.ref 737) [.ref core, .ref cl, .int first tf, .ref pa]) Q E s := by
  have hroom : A.depth < recursionLimit := Nat.lt_of_lt_of_le hA (Nat.le_of_ble_eq_true rfl)
  refine wpAny_call ?_
  k_dflt (refine' enter (binds := [(Str.ofString "core", .ref core), (Str.ofString "clause", .ref cl), (Str.ofString "first", .int first tf), (Str.ofString "pairs", .ref pa)]) ([st, pr, dp] ++ Frs outer) X T.nolimit hB (fun a m => (List.mem_append.mp m).elim (hO a) (hOF a)) ?k6 ?k7 ?k8 ?k9 ?kB ?_ ?c5 ?c2 ?c3 ?c4; (case k6 => k_is); (case k7 => k_is); (case k8 => exact hroom); (case k9 => exact BindsTo.of_eq rfl); (case kB => exact locs rfl); (case c5 => decide); (case c2 => exact rfl); (case c3 => exact rfl); (case c4 => exact rfl))
  intro g L h₁ hg hL F hk₁ sg Xg
  have Tg := T.keeps sg
  have N : News g L h₁ [] := fun _ m => nomatch m
  have ci := hide1 hg SA.inst (fun m => (List.mem_append.mp m).elim (search_not P SA) hcF.1)
  obtain ⟨es, n, hd, hp, hl⟩ := SA.dict
  have cd := hide1 hg hd (fun m => (List.mem_append.mp m).elim (search_dict P hd hdc) hcF.2)
  have hLn : s.heap.get? L = none := hL ▸ Heap.get?_none_of_le (Nat.le_refl _)
  have kk : Keep [] s.heap h₁ := Keep.of_all hk₁
  refine wpAny_mono ?_ (fun _ _ h => h) (fun _ _ h => h)
  k_fold
  k_steps
  refine wpAny_Try_except ?_
  k_steps
  have gO : ∀ a ∈ [st, pr, dp], g.get? a = none := fun a m => hg ▸ hideAll_none _ (List.mem_append_left _ m)
  have gF : ∀ a ∈ Frs outer, g.get? a = none := fun a m => hg ▸ hideAll_none _ (List.mem_append_right _ m)
  have hLF : L ∉ Frs outer := fun m => by
    obtain ⟨o, ho, _⟩ := ff_obj FO m
    rw [ho] at hLn; cases hLn
  have hLp : ∀ a ∈ [st, pr, dp], a ≠ L := fun a m e => by
    obtain ⟨a1, a2, a3, t1, t2, t3, t4, hdp⟩ := P.dict
    obtain ⟨n0, hst⟩ := P.list
    have hpi := P.inst
    subst e
    simp only [List.mem_cons, List.not_mem_nil, or_false] at m
    rcases m with rfl | rfl | rfl
    · rw [hst] at hLn; cases hLn
    · rw [hpi] at hLn; cases hLn
    · rw [hdp] at hLn; cases hLn
  refine log_c Xg Tg (by exact F.keep) (Around.frames_deeper hfr) (by show A.depth + 1 < 490; omega) (by show A.units + 3 ≤ 3990; omega) hh (ff_push FO (by show ScopeKind.function ≠ .module; decide) rfl F.ns fun b hb o q => kk.all b o q) ⟨kk.all _ _ SA.inst, es, n, kk.all _ _ hd, hp, hl⟩ hdc (P.keepN kk (fun _ _ => List.not_mem_nil)) gO (fun a m => ?_) (S.keepN kk notup_nil) hlen tid (hPA.keepN kk) hpa hpl hps hf0 hf1 (tupi_keepN kk notup_nil hc)
    (fun e h' tk k => hret0 e h' tk (kk.trans k)) (fun e1 e2 h' tk t k G => hret1 e1 e2 h' tk t ((kk.mono fun _ m => nomatch m).trans k) (G.pull kk)) (fun d e1 e2 e3 H h' tk e kH R G => ?_) (fun e1 e2 h' tk e R => ?_)
  · rw [frs_push rfl] at m
    rcases List.mem_cons.mp m with q | q
    · exact fun mm => hLp a mm q
    · exact hFr a q
  · have FH := fr_call F kH (fun m => hLp L (by simp only [List.mem_cons, List.not_mem_nil, or_false] at m ⊢; rcases m with m | m; exact .inl m; exact .inr (.inr m)) rfl) (fun a m => gO a (by simp only [List.mem_cons, List.not_mem_nil, or_false] at m ⊢; rcases m with m | m; exact .inl m; exact .inr (.inr m)))
    refine caught_fault Xg Tg (Around.frames_deeper hfr) R FH (fun a m => gF a m) hLF (fun h6 F6 k6 sl6 => ?_) (fun s₂ Q E F2 q => ?_)
    · k_steps
      have k6' : Keep (L :: Frs outer) H h6 := k6
      refine hretN1 d e1 e2 e3 h6 _ ⟨fun b o n q => k6' b o (fun mm => ?_) (kH b o (fun mm => n (List.mem_append_left _ mm)) (kk.all b o q)), fun z mz o q => sl6 z mz o (kH z o (sd_not (hFr z mz)) (kk.all z o q))⟩ ?_
      · rcases List.mem_cons.mp mm with z | z
        · rw [z, hLn] at q; cases q
        · exact n (List.mem_append_right _ z)
      · obtain ⟨a, em', Pa, fa, ra⟩ := G
        exact ⟨a, em', Pa.keepN k6' (fun b m mm => by
          rcases List.mem_cons.mp mm with z | z
          · exact hLp b m z
          · exact hFr b z m), fresh_keep kk.all fa, tup_map (fun b us t => tup_left k6' FH.ns sl6 t) ra⟩
    · k_steps
      exact q
  · refine caught_fault Xg Tg (Around.frames_deeper hfr) R F (fun a m => gF a m) hLF (fun h6 F6 k6 sl6 => ?_) (fun s₂ Q E F2 q => ?_)
    · k_steps
      have k6' : Keep (L :: Frs outer) _ h6 := k6
      refine hretN0 e1 e2 h6 _ ⟨fun b o n q => k6' b o (fun mm => ?_) (kk.all b o q), fun z mz o q => sl6 z mz o (kk.all z o q)⟩
      rcases List.mem_cons.mp mm with z | z
      · rw [z, hLn] at q; cases q
      · exact n z
    · k_steps
      exact q
/-- what a told chain without a result is held against -/
def gvOf (ps : List (Int × Int)) (first : Int) (tf : Tok) : Value := if ps = [] then .int first tf else .none
theorem kept_of {h h' : Heap} {outer : List Env} (k : Keep [] h h') : Kept h [] outer h' := ⟨k.mono fun _ m => (nomatch m), fun a _ o e => ⟨o.slots, k.all a o e⟩⟩
theorem told_gv {A : Around} {outer : List Env} (X : (Mine.hd.heap_39 w.params).In B) (T : Tp mean mg mb B) (hB : B.StaysIn s.heap) (hfr : A.frames = some outer) (hA : A.depth < 480) (hU : A.units ≤ 3980) (hh : A.handled = none) (FO : FrsOk s.heap outer)
    (SA : SearchAt s.heap core dc (.ref pr)) (hdc : dc ≠ dp) (hcF : core ∉ Frs outer ∧ dc ∉ Frs outer) (P : ProofAt s.heap pr dp st nm as em) (hO : ∀ a ∈ [st, pr, dp], B.get? a = none) (hOF : ∀ a ∈ Frs outer, B.get? a = none) (hFr : ∀ a ∈ Frs outer, a ∉ [st, pr, dp]) (S : StepsAt s.heap as cls) (hlen : as.length < 190) (tid : ∀ c ∈ cls, Tid c)
    (hPA : PairsAt s.heap pa ps) (hpa : pa ≠ st) (hpl : ps.length < 100) (hps : ∀ p ∈ ps, 1 ≤ p.1 ∧ p.1 ≤ 5 ∧ 0 ≤ p.2 ∧ p.2 < as.length) {first : Int} {tf : Tok} (hf0 : 0 ≤ first) (hf1 : first < as.length) (hc : TupInts s.heap cl c)
    (hab : ps = [] ∨ chainP cls (some (cls.getD first.toNat [])) ps = none) (hret : ∀ h' tk, Kept s.heap [] outer h' → Q (gvOf ps first tf) { s with heap := h', toks := tk }) :
    wpAny (model PySem.Challenge.rw_rg0222_01.row.prog w) A (call (.ref 737) [.ref core, .ref cl, .int first tf, .ref pa]) Q E s :=
  told_c X T hB hfr hA hU hh FO SA hdc hcF P hO hOF hFr S hlen tid hPA hpa hpl hps hf0 hf1 hc
    (fun e h' tk k => by have := hret h' tk (kept_of k); rw [gvOf, if_pos e] at this; exact this)
    (fun n e => by rw [hab.resolve_left n] at e; cases e) (fun d n e => by rw [hab.resolve_left n] at e; cases e)
    (fun n _ h' tk k => by have := hret h' tk k; rw [gvOf, if_neg n] at this; exact this)
end
end STold
section SSetA
-- needs Told

theorem slot_setit_next : Slot "set_iterator" "__next__" "set_iterator.__next__" :=
  .of (owner := "set_iterator") (n := "__next__") (by rw [typeLookup_type, builtinLookup_eq_fast]; kernel_rfl) (by decide +kernel) (by decide +kernel) (by decide +kernel)
    (by first | exact .inl (by decide +kernel) | exact .inr (by decide +kernel)) (by rw [isSubtype_type]; kernel_rfl)
theorem entry_setit_next : entryFor table "set_iterator.__next__" = some Builtin.«set_iterator.__next__» := entryFor_of_tree (by kernel_rfl)
theorem owner_setit : Manifest.owners.lookup (String.ofList ['r', 'o', 't', 'a', 'r', 'e', 't', 'i', '_', 't', 'e', 's'].reverse) = some Manifest.sig_set_iterator := by kernel_rfl
theorem args_setit_next (a : Value) : argsOk "set_iterator.__next__" ⟨[a], []⟩ := by
  unfold argsOk; rw [signature?_of (id := "set_iterator.__next__") (n := ['_', '_', 't', 'x', 'e', 'n', '_', '_']) (o := ['r', 'o', 't', 'a', 'r', 'e', 't', 'i', '_', 't', 'e', 's']) (by kernel_rfl) owner_setit]; kernel_rfl
theorem slot_setit_iter : Slot "set_iterator" "__iter__" "set_iterator.__iter__" :=
  .of (owner := "set_iterator") (n := "__iter__") (by rw [typeLookup_type, builtinLookup_eq_fast]; kernel_rfl) (by decide +kernel) (by decide +kernel) (by decide +kernel)
    (by first | exact .inl (by decide +kernel) | exact .inr (by decide +kernel)) (by rw [isSubtype_type]; kernel_rfl)
theorem entry_setit_iter : entryFor table "set_iterator.__iter__" = some Builtin.«dict_keyiterator.__iter__» := entryFor_alias (id' := "dict_keyiterator.__iter__") (by kernel_rfl) rfl (by decide +kernel) (by kernel_rfl)
theorem args_setit_iter (a : Value) : argsOk "set_iterator.__iter__" ⟨[a], []⟩ := by
  unfold argsOk; rw [signature?_of (id := "set_iterator.__iter__") (n := ['_', '_', 'r', 'e', 't', 'i', '_', '_']) (o := ['r', 'o', 't', 'a', 'r', 'e', 't', 'i', '_', 't', 'e', 's']) (by kernel_rfl) owner_setit]; kernel_rfl
theorem entry_set_iter' : entryFor table "set.__iter__" = some Builtin.«frozenset.__iter__» := entryFor_alias (id' := "frozenset.__iter__") (by kernel_rfl) rfl (by decide +kernel) (by kernel_rfl)

/-- the table of a small set of small ints -/
def tbl (led : Bool) (l : List Nat) : SetTable := { mask := 7, place := l.toArray, dummies := #[], finger := 0, led := led, moves := 0, plain := true }
def mk8 (m : Nat) : List Nat := (List.range 8).filter fun i => m.testBit i
def vals : List Int := [-5, -4, -3, -2, -1, 1, 2, 3, 4, 5]
def chk (m : Nat) (l : List Nat) (v : Int) : Bool :=
  match (tbl true l).freeSlot (hashInt v) with
  | some (j, false) => match (tbl true l).put j with
    | (t', p) => match m + 2 ^ j with
      | m' => match mk8 m' with
        | l' => decide (t'.place.toList = l') && t'.dummies.isEmpty && (l'.length == l.length + 1) && Nat.ble p l.length && Nat.blt m' 256
  | _ => false
theorem put_ok : ((List.range 256).all fun m => match mk8 m with | l => Nat.ble 4 l.length || vals.all fun v => chk m l v) = true := by decide +kernel
def slotAt (l : List Nat) (i : Nat) : Nat := if i = 0 then 0 else l.getD (i - 1) 0 + 1
theorem walk_ok : ((List.range 256).all fun m => match mk8 m with | l => (List.range (l.length + 1)).all fun i => SetTable.below l.toArray (slotAt l i) == i) = true := by decide +kernel

theorem free_led (l : List Nat) (h : Int) (led : Bool) : (tbl led l).freeSlot h = (tbl true l).freeSlot h := by
  have go : ∀ (f : Nat → Int) (fuel : Nat) (p : SetTable.Probe), SetTable.probe.go (tbl led l) f h fuel p = SetTable.probe.go (tbl true l) f h fuel p := by
    intro f fuel
    induction fuel with
    | zero => intro p; rfl
    | succ n ih =>
      intro p
      unfold SetTable.probe.go
      have e1 : ∀ j, (tbl led l).slot j = (tbl true l).slot j := fun _ => rfl
      have e2 : ∀ q, (tbl led l).advance q = (tbl true l).advance q := fun _ => rfl
      simp only [e1, e2, ih]
  unfold SetTable.freeSlot SetTable.probe
  rw [show (10 * SetTable.turns (tbl led l).mask) = (10 * SetTable.turns (tbl true l).mask) from rfl, show (tbl led l).probeStart h = (tbl true l).probeStart h from rfl, go]
theorem put_at {m : Nat} (hm : m < 256) (hl : (mk8 m).length < 4) {v : Int} (hv : v ∈ vals) (led : Bool) :
    ∃ j p m', (tbl led (mk8 m)).freeSlot (hashInt v) = some (j, false) ∧ (tbl led (mk8 m)).put j = (tbl led (mk8 m'), p) ∧ m' < 256 ∧ (mk8 m').length = (mk8 m).length + 1 ∧ p ≤ (mk8 m).length := by
  have h := List.all_eq_true.mp put_ok m (List.mem_range.mpr hm)
  have h1 : Nat.ble 4 (mk8 m).length = false := by rw [← Bool.not_eq_true, Nat.ble_eq]; omega
  replace h : (Nat.ble 4 (mk8 m).length || vals.all fun v => chk m (mk8 m) v) = true := h
  rw [h1, Bool.false_or] at h
  replace h := List.all_eq_true.mp h v hv
  unfold chk at h
  rw [free_led]
  split at h
  · rename_i j hj
    refine ⟨j, ((tbl true (mk8 m)).put j).2, m + 2 ^ j, hj, ?_⟩
    replace h : (decide (((tbl true (mk8 m)).put j).1.place.toList = mk8 (m + 2 ^ j)) && ((tbl true (mk8 m)).put j).1.dummies.isEmpty && ((mk8 (m + 2 ^ j)).length == (mk8 m).length + 1) && Nat.ble ((tbl true (mk8 m)).put j).2 (mk8 m).length && Nat.blt (m + 2 ^ j) 256) = true := h
    simp only [Bool.and_eq_true, decide_eq_true_eq, beq_iff_eq, Nat.ble_eq, Array.isEmpty_iff] at h
    obtain ⟨⟨⟨⟨h1, h2⟩, h3⟩, h4⟩, h5⟩ := h
    refine ⟨?_, Nat.ble_eq.mp h5, h3, h4⟩
    have e : (tbl led (mk8 m)).put j = ({ ((tbl true (mk8 m)).put j).1 with led := led }, ((tbl true (mk8 m)).put j).2) := rfl
    rw [e]
    refine Prod.ext ?_ rfl
    show SetTable.mk 7 ((tbl true (mk8 m)).put j).1.place ((tbl true (mk8 m)).put j).1.dummies 0 led 0 true = tbl led (mk8 (m + 2 ^ j))
    rw [h2, ← h1]
    rfl
  · cases h
theorem below_at {m : Nat} (hm : m < 256) {i : Nat} (hi : i ≤ (mk8 m).length) : SetTable.below (mk8 m).toArray (slotAt (mk8 m) i) = i := by
  have h := List.all_eq_true.mp walk_ok m (List.mem_range.mpr hm)
  replace h : ((List.range ((mk8 m).length + 1)).all fun i => SetTable.below (mk8 m).toArray (slotAt (mk8 m) i) == i) = true := h
  exact beq_iff_eq.mp (List.all_eq_true.mp h i (List.mem_range.mpr (Nat.lt_succ_of_le hi)))

/-- the entries of a set of ints -/
inductive Ents : List (Int × Value) → List Int → Prop
  | nil : Ents [] []
  | cons {l : List (Int × Value)} {zs : List Int} (z : Int) (t : Tok) : Ents l zs → Ents ((hashInt z, .int z t) :: l) (z :: zs)
theorem Ents.length : ∀ {l : List (Int × Value)} {zs : List Int}, Ents l zs → l.length = zs.length
  | _, _, .nil => rfl
  | _, _, .cons _ _ r => congrArg Nat.succ r.length
theorem Ents.take : ∀ {l : List (Int × Value)} {zs : List Int} (n : Nat), Ents l zs → Ents (l.take n) (zs.take n)
  | _, _, 0, _ => by rw [List.take_zero, List.take_zero]; exact .nil
  | _, _, _ + 1, .nil => .nil
  | _, _, n + 1, .cons z t r => .cons z t (r.take n)
theorem Ents.drop : ∀ {l : List (Int × Value)} {zs : List Int} (n : Nat), Ents l zs → Ents (l.drop n) (zs.drop n)
  | _, _, 0, e => e
  | _, _, _ + 1, .nil => .nil
  | _, _, n + 1, .cons _ _ r => r.drop n
theorem Ents.app {k : List (Int × Value)} {ws : List Int} (q : Ents k ws) : ∀ {l : List (Int × Value)} {zs : List Int}, Ents l zs → Ents (l ++ k) (zs ++ ws)
  | _, _, .nil => q
  | _, _, .cons z t r => .cons z t (q.app r)
theorem Ents.vals : ∀ {l : List (Int × Value)} {zs : List Int}, Ents l zs → IntsAre (l.map (·.2)) zs
  | _, _, .nil => .nil
  | _, _, .cons z t r => .cons z t r.vals
theorem Ents.of {prog : Program} {w : World} : ∀ {l : List (Int × Value)} {zs : List Int}, Ents l zs → ElemsOf (intKind prog w) l
  | _, _, .nil => fun e he => by cases he
  | _, _, .cons z t r => fun e he => by
    rcases List.mem_cons.mp he with rfl | he
    · exact ⟨⟨z, intKind_is _ _ _ _, rfl⟩, rfl⟩
    · exact r.of e he
theorem Ents.mem {prog : Program} {w : World} {z : Int} : ∀ {l : List (Int × Value)} {zs : List Int}, Ents l zs → (z ∈ zs ↔ ∃ e ∈ l, (intKind prog w).is z e.2 = true)
  | _, _, .nil => by simp
  | _, _, .cons (l := l) (zs := zs) y t r => by
    have ih := Ents.mem (prog := prog) (w := w) (z := z) r
    rw [List.mem_cons, ih]
    constructor
    · rintro (rfl | ⟨e, he, h⟩)
      · exact ⟨_, .head _, intKind_is _ _ _ _⟩
      · exact ⟨e, .tail _ he, h⟩
    · rintro ⟨e, he, h⟩
      rcases List.mem_cons.mp he with rfl | he
      · exact .inl ((intKind prog w).inj _ z y h (intKind_is _ _ _ _))
      · exact .inr ⟨e, he, h⟩
def setO (led : Bool) (es : Array (Int × Value)) (ep m : Nat) : Obj := ⟨.type "set", none, .set es ep (tbl led (mk8 m)), #[]⟩
structure SetOk (o : Obj) (led : Bool) (zs : List Int) : Prop where
  is : ∃ es ep m, o = setO led es ep m ∧ Ents es.toList zs ∧ m < 256 ∧ (mk8 m).length = zs.length ∧ zs.length ≤ 4
theorem Ents.size {es : Array (Int × Value)} {zs : List Int} (e : Ents es.toList zs) : es.size = zs.length := by rw [← e.length, Array.length_toList]
theorem tbl_fits {led : Bool} {m n : Nat} (h : (mk8 m).length = n) (h4 : n ≤ 4) : (tbl led (mk8 m)).fits n = true := by
  unfold SetTable.fits SetTable.fill tbl
  simp only [List.size_toArray, h, beq_self_eq_true, Bool.true_and, decide_eq_true_eq]
  show n + 0 ≤ 7
  omega
end SSetA
section SSetB

section
variable {prog : Program} {w : World} {A : Around} {E : Value → Shared → Prop} {s : Shared}
theorem set_add {S : Addr} {o : Obj} {led : Bool} {zs : List Int} {z : Int} {t : Tok} {Q : Bool → Shared → Prop} (ho : s.heap.get? S = some o) (hk : SetOk o led zs) (hv : z ∈ vals) (hroom : z ∉ zs → zs.length < 4)
    (h : ∀ b h' o' zs', Heap.SameBut S s.heap h' → h'.get? S = some o' → SetOk o' led zs' → ((z ∈ zs ∧ zs' = zs) ∨ (z ∉ zs ∧ ∃ p, zs' = zs.take p ++ z :: zs.drop p)) → Q b { s with heap := h' }) :
    wpAny (model prog w) A (setAddHashed S (.int z t) (hashInt z)) Q E s := by
  obtain ⟨es, ep, m, rfl, he, hm, hl, h4⟩ := hk.is
  have hf : (tbl led (mk8 m)).fits es.size = true := tbl_fits (he.size ▸ hl) (by rw [he.size]; exact h4)
  have hel := he.of (prog := prog) (w := w)
  unfold setAddHashed setAddHashedIn
  refine wpAny_holding (wpAny_bind (wpAny_setState_of ho rfl hf ?_))
  dsimp only
  rw [byScan_of (knd := intKind prog w) rfl (by rw [he.size]; unfold scanBound; omega) hel]
  simp only [↓reduceIte]
  unfold setAddByScan
  refine wpAny_bind ?_
  refine wpAny_bind (wpAny_rule ?_)
  refine wpAny_bind (wpAny_setScan_of (knd := intKind prog w) (k := z) (intKind_is _ _ _ _) ho rfl hf hel ?_)
  cases hr : List.findIdx? (fun e => (intKind prog w).is z e.2) es.toList with
  | some j =>
    dsimp only
    obtain ⟨hj, hpj, _⟩ := List.findIdx?_eq_some_iff_getElem.mp hr
    refine wpAny_pure (wpAny_pure ?_)
    exact h _ s.heap _ zs (Heap.SameBut.refl ..) ho hk (.inl ⟨(Ents.mem (prog := prog) (w := w) he).mpr ⟨_, List.getElem_mem hj, hpj⟩, rfl⟩)
  | none =>
    dsimp only
    have hz : z ∉ zs := fun q => by
      obtain ⟨e, hm, hp⟩ := (Ents.mem (prog := prog) (w := w) he).mp q
      have := List.findIdx?_eq_none_iff.mp hr e hm
      rw [hp] at this; exact Bool.noConfusion this
    have hlt := hroom hz
    obtain ⟨j, p, m', f1, f2, f3, f4, f5⟩ := put_at hm (by rw [hl]; exact hlt) hv led
    have hL : layNew (tbl led (mk8 m)) es (hashInt z) (.int z t) = (SetTable.insertAt es p (hashInt z, .int z t), tbl led (mk8 m'), false, false) := by
      have hsz : (SetTable.insertAt es p (hashInt z, Value.int z t)).size = zs.length + 1 := by
        rw [← Array.length_toList, SetTable.toList_insertAt]
        simp only [List.length_append, List.length_take, List.length_cons, List.length_drop, Array.length_toList, he.size]
        have := f5
        rw [hl] at this
        omega
      have hfit : (tbl led (mk8 m')).fits (SetTable.insertAt es p (hashInt z, Value.int z t)).size = true := by
        rw [hsz]; exact tbl_fits (by rw [f4, hl]) (by omega)
      unfold layNew
      rw [f1]
      dsimp only
      rw [f2]
      dsimp only
      unfold SetTable.orStandIn
      rw [hfit]
      rfl
    have he' : Ents (SetTable.insertAt es p (hashInt z, Value.int z t)).toList (zs.take p ++ z :: zs.drop p) := by
      rw [SetTable.toList_insertAt]
      exact Ents.app (.cons z t (he.drop p)) (he.take p)
    have hlen : (zs.take p ++ z :: zs.drop p).length = zs.length + 1 := by
      rw [List.length_append, List.length_cons, List.length_take, List.length_drop]
      have := f5
      rw [hl] at this
      omega
    rw [hL]
    dsimp only
    refine wpAny_bind ?_
    show wpAny _ _ (pure ()) _ _ _
    refine wpAny_pure ?_
    have hpl : (tbl led (mk8 m')).plain = true := rfl
    simp only [hpl, ↓reduceIte]
    refine wpAny_bind ?_
    rw [hashByValue_scannable 8 rfl]
    refine wpAny_pure ?_
    show wpAny _ _ (storeSet S (SetTable.insertAt es p (hashInt z, .int z t)) (tbl led (mk8 m')) >>= _) _ _ _
    refine wpAny_bind (wpAny_storeSet_of ho rfl ?_ (by rw [he'.size, hlen, sizeLine_eq]; omega))
    have htf : (tbl led (mk8 m')).tooFull = false := by
      unfold SetTable.tooFull SetTable.fill tbl
      simp only [List.size_toArray, f4, hl]
      rw [decide_eq_false_iff_not]
      show ¬ ((zs.length + 1 + 0) * 5 ≥ 7 * 3)
      omega
    have hpk : plainKind (Value.int z t) = true := rfl
    simp only [hpk, htf, Bool.not_false, Bool.and_false, Bool.false_eq_true, ↓reduceIte]
    refine wpAny_pure ?_
    refine wpAny_pure ?_
    refine h _ _ (setO led (SetTable.insertAt es p (hashInt z, .int z t)) (ep + 1) m') _ (Heap.SameBut.update ..) ?_ ⟨_, _, _, rfl, he', f3, by rw [f4, hl, hlen], by rw [hlen]; omega⟩ (.inr ⟨hz, p, rfl⟩)
    have := Heap.get?_update_self (Obj.putSet (SetTable.insertAt es p (hashInt z, Value.int z t)) (tbl led (mk8 m'))) ho (by rw [putSet_of _ _ rfl]; rfl)
    rw [putSet_of _ _ rfl] at this
    exact this
end

def MetTo (o : Obj) (led : Bool) (val : Nat → Int) (i : Nat) : Prop := ∃ zs, SetOk o led zs ∧ zs.Nodup ∧ ∀ y, y ∈ zs ↔ ∃ j, j < i ∧ y = val j
section
variable {prog : Program} {w : World} {A : Around} {R : Result → Shared → Prop} {I : Addr} {fp wr : List Addr} {G : Array GenState → Array GenState → Prop} {n : Nat} {P : Nat → Value → Prop} {St : Nat → Shared → Prop}
theorem set_loop (W : WalksS prog w A.in1 I fp wr G n P St) (S : Addr) (hSf : S ∉ fp) (led : Bool) (val : Nat → Int) (hval : ∀ i v, P i v → ∃ t, v = .int (val i) t) (hvals : ∀ i, i < n → val i ∈ vals)
    (hmax : ∀ zs : List Int, zs.Nodup → (∀ y ∈ zs, ∃ i, i < n ∧ y = val i) → zs.length ≤ 4) :
    ∀ (k i : Nat) (s : Shared) (o : Obj), n - i = k → i ≤ n → St i s → s.heap.get? S = some o → MetTo o led val i →
      (∀ s' o', Moved (S :: wr) G s s' → s'.heap.get? S = some o' → MetTo o' led val n → R (.ok (.ret .none)) s') →
      codeAny (model prog w) A (.builtin "set.update.loop" ⟨[.ref S, .ref I], []⟩) R s := by
  have hSw : S ∉ wr := fun h => hSf (W.sub _ h)
  have hsub : ∀ b ∈ wr, b ∈ S :: wr := fun b hb => List.mem_cons_of_mem _ hb
  intro k
  induction k with
  | zero =>
    intro i s o hk hi hst hS hM hR
    have hin : i = n := by omega
    subst hin
    refine codeAny_builtin PyProof.Rows.F.entry_set_update_loop ?_
    rw [Around.under_plainId PyProof.Rows.F.plain_set_update_loop _]
    show wpAny _ A.in1 (pyNext (.ref I) >>= _) _ _ s
    refine wpAny_bind (W.done s _ _ hst fun s' hm => ?_)
    show wpAny _ A.in1 (ret Value.none) _ _ s'
    exact wpAny_pure (hR s' o (hm.mono hsub) (hm.heap S _ hSw hS) hM)
  | succ k ih =>
    intro i s o hk hi hst hS hM hR
    have hlt : i < n := by omega
    refine codeAny_builtin PyProof.Rows.F.entry_set_update_loop ?_
    rw [Around.under_plainId PyProof.Rows.F.plain_set_update_loop _]
    show wpAny _ A.in1 (pyNext (.ref I) >>= _) _ _ s
    refine wpAny_bind (W.item i s _ _ hlt hst fun v s' hP hst' hm => ?_)
    obtain ⟨t, rfl⟩ := hval i v hP
    have hS' := hm.heap S _ hSw hS
    obtain ⟨zs, hok, hnd, hmem⟩ := hM
    show wpAny _ A.in1 (holding [Value.int (val i) t] (setAdd S (.int (val i) t)) >>= _) _ _ s'
    refine wpAny_bind (wpAny_holding ?_)
    unfold setAdd
    refine wpAny_holding ?_
    refine wpAny_bind ((intKind prog w).pyHash (k := val i) (intKind_is _ _ _ _) ?_)
    refine set_add (s := { s' with toks := s'.toks + 1 }) hS' hok (hvals i hlt) (fun hn => ?_) fun b h' o' zs' hsb hS2 hok' hz => ?_
    · have := hmax (val i :: zs) (List.nodup_cons.mpr ⟨hn, hnd⟩) fun y hy => by
        rcases List.mem_cons.mp hy with rfl | hy
        · exact ⟨i, hlt, rfl⟩
        · obtain ⟨j, hj, e⟩ := (hmem y).mp hy
          exact ⟨j, by omega, e⟩
      rw [List.length_cons] at this
      omega
    have hM' : MetTo o' led val (i + 1) := by
      refine ⟨zs', hok', ?_⟩
      rcases hz with ⟨hz, rfl⟩ | ⟨hz, p, rfl⟩
      · refine ⟨hnd, fun y => (hmem y).trans ⟨fun ⟨j, hj, e⟩ => ⟨j, by omega, e⟩, fun ⟨j, hj, e⟩ => ?_⟩⟩
        rcases Nat.lt_succ_iff_lt_or_eq.mp hj with hj | hj
        · exact ⟨j, hj, e⟩
        · subst hj; exact (hmem y).mp (e ▸ hz)
      · have pm : List.Perm (zs.take p ++ val i :: zs.drop p) (val i :: zs) := by
          have := List.perm_middle (a := val i) (l₁ := zs.take p) (l₂ := zs.drop p)
          rw [List.take_append_drop] at this
          exact this
        refine ⟨pm.nodup_iff.mpr (List.nodup_cons.mpr ⟨hz, hnd⟩), fun y => pm.mem_iff.trans ?_⟩
        rw [List.mem_cons, hmem y]
        constructor
        · rintro (rfl | ⟨j, hj, e⟩)
          · exact ⟨i, Nat.lt_succ_self _, rfl⟩
          · exact ⟨j, by omega, e⟩
        · rintro ⟨j, hj, e⟩
          rcases Nat.lt_succ_iff_lt_or_eq.mp hj with hj | hj
          · exact .inr ⟨j, hj, e⟩
          · subst hj; exact .inl e
    refine wpAny_pure ⟨plainId_quiet PyProof.Rows.F.plain_set_update_loop _, ih (i + 1) _ o' (by omega) hlt (W.frame _ s' _ _ hst' (Nat.le_succ _) fun b hb o e => ?_) hS2 hM' fun s'' o'' hm'' hS'' hM'' => ?_⟩
    · rw [hsb.2 b (fun h : b = S => hSf (by rw [← h]; exact hb))]; exact e
    · refine hR s'' o'' (Moved.trans W.gtrans ((hm.mono hsub).then_heap (Nat.le_succ _) fun b o hb e => ?_) hm'') hS'' hM''
      rw [hsb.2 b (fun h : b = S => hb (by rw [h]; exact List.mem_cons_self))]; exact e
end
def ledW (w : World) : Bool := !(w.params.followText "set-order")
section
variable {prog : Program} {w : World} {A : Around} {E : Value → Shared → Prop} {s : Shared}
theorem code_set_new (a : Value) {Q₁ : Value → Shared → Prop}
    (h : Q₁ (.ref s.heap.objs.size) { s with heap := s.heap.push { cls := .type "set", dict := none, data := .set #[] 0 (.fresh 0 0 (ledW w)) } }) :
    codeAny (model prog w) A (.call (.builtin "set.__new__") ⟨[.type "set", a], []⟩) (wants Q₁ E) s := by
  refine codeAny_of_tree ?_
  show wpAny _ A.in1 (do checkBuiltinCall "set.__new__" ⟨[.type "set", a], []⟩; again (.builtin "set.__new__" ⟨[.type "set", a], []⟩)) _ _ s
  refine wpAny_bind (wpAny_of_eq (F.newCall_set_1 a) (wpAny_pure ⟨plainId_quiet F.plain_set_new _, codeAny_builtin F.entry_set_new ?_⟩))
  rw [Around.under_plainId F.plain_set_new _]
  unfold Builtin.«set.__new__» Builtin.Frozenset.newClass
  have hsub := sub_set_self
  obtain ⟨hp, g, d, tk, os⟩ := s
  dsimp only
  wp_walk
  refine wpAny_askSetting (wpAny_pure ?_)
  dsimp only
  simp only [newObj]
  refine wpAny_bind (wpAny_alloc (wpAny_pure ?_))
  exact wpAny_pure h
set_option maxHeartbeats 3200000 in
theorem call_set {l : Addr} {items : Array Value} {ns : List Int} {Q : Value → Shared → Prop}
    (hh : A.handled = none) (hl : s.heap.IsList l items) (hi : IntsAre items.toList ns) (hvals : ∀ y ∈ ns, y ∈ vals) (hmax : ∀ zs : List Int, zs.Nodup → (∀ y ∈ zs, y ∈ ns) → zs.length ≤ 4)
    (h : ∀ (h' : Heap) (tk : Nat) o zs, h'.get? s.heap.objs.size = some o → SetOk o (ledW w) zs → zs.Nodup → (∀ y, y ∈ zs ↔ y ∈ ns) →
      (∀ b o, b < s.heap.objs.size → s.heap.get? b = some o → h'.get? b = some o) → Q (.ref s.heap.objs.size) { s with heap := h', toks := tk }) :
    wpAny (model prog w) A (call (.type "set") [.ref l]) Q E s := by
  obtain ⟨c, tl, hmro⟩ := F.called_set.mro
  have hmade := F.called_set.made
  have hsub := F.called_set.sub
  have hn : items.size = ns.length := by rw [← hi.length, Array.length_toList]
  have hgd : ∀ y, y ∈ ns ↔ ∃ j, j < items.size ∧ y = ns.getD j 0 := fun y => by
    rw [List.mem_iff_getElem, hn]
    constructor
    · rintro ⟨j, hj, e⟩; exact ⟨j, hj, by rw [List.getD_eq_getElem?_getD, List.getElem?_eq_getElem hj]; exact e.symm⟩
    · rintro ⟨j, hj, e⟩; exact ⟨j, hj, by rw [List.getD_eq_getElem?_getD, List.getElem?_eq_getElem hj] at e; exact e.symm⟩
  refine wpAny_call (codeAny_of_tree ?_)
  show wpAny _ _ (callAny (.type "set") _) _ _ _
  refine wpAny_pure ⟨Code.quiet_builtin _ (by decide +kernel), codeAny_builtin F.entry_type_call ?_⟩
  rw [Around.under_plain (weight_type_call_type "set" [.ref l] []) rfl]
  have h1 := F.called_set.notType
  have h2 := F.called_set.canCreate
  have hct := F.typeCall_set_1 (.ref l)
  repeat (any_goals (first | assumption | wp_step))
  refine codeAny_mono (code_set_new (.ref l) (E := E) (Q₁ := fun obj s₁ => obj = .ref s.heap.objs.size ∧ s₁ = { s with heap := s.heap.push { cls := .type "set", dict := none, data := .set #[] 0 (.fresh 0 0 (ledW w)) } }) ⟨rfl, rfl⟩) fun r s₁ hr => ?_
  generalize ledW w = led at hr h
  cases r with
  | error e => exact hr
  | ok fl =>
    cases fl with
    | ret obj =>
      obtain ⟨rfl, rfl⟩ := hr
      have hS : (s.heap.push { cls := .type "set", dict := none, data := .set #[] 0 (.fresh 0 0 led) }).get? s.heap.objs.size = some { cls := .type "set", dict := none, data := .set #[] 0 (.fresh 0 0 led) } := Heap.get?_push_size _ rfl
      have hT : Shared.TypeIs { s with heap := s.heap.push { cls := .type "set", dict := none, data := .set #[] 0 (.fresh 0 0 led) } } (.ref s.heap.objs.size) "set" := ⟨_, hS, rfl⟩
      have hli := F.called_set.init.lookup
      have hbi := F.called_set.init.bind (.ref s.heap.objs.size)
      repeat (any_goals (first | assumption | wp_step))
      refine codeAny_mono (codeAny_call_builtin (R := wants (fun r s₂ => r = .none ∧ ∃ h' tk o, s₂ = { s with heap := h', toks := tk } ∧ h'.get? s.heap.objs.size = some o ∧ MetTo o led (fun i => ns.getD i 0) items.size ∧
          (∀ b o, b < s.heap.objs.size → s.heap.get? b = some o → h'.get? b = some o)) E) F.called_set.init.plain F.entry_set_init (check_set_init_1 hT ?_)) fun r₂ s₂ hr₂ => ?_
      · obtain ⟨ol, hol, hcl, nl, hdl⟩ := hl
        obtain ⟨ocls, odict, odata, oslots⟩ := ol
        simp only at hcl hdl
        subst hcl; subst hdl
        have hol' : (s.heap.push { cls := .type "set", dict := none, data := .set #[] 0 (.fresh 0 0 led) }).get? l = some { cls := .type "list", dict := odict, data := .seq items nl, slots := oslots } := Heap.get?_push_of_some _ hol
        have hsls := F.sub_list_set
        have hslf := F.sub_list_frozenset
        have hne : (Value.type "list" == Value.type "dict") = false := by decide
        have hl1 : (s.heap.push { cls := .type "set", dict := none, data := .set #[] 0 (.fresh 0 0 led) }).IsList l items := ⟨_, hol', rfl, nl, rfl⟩
        unfold Builtin.«set.__init__» noKeywords Builtin.Frozenset.updateFrom
        generalize hPI : pyIter = PI
        wp_walk
        subst hPI
        refine wpAny_pyIter_list hl1 ?_
        refine wpAny_bind (wpAny_runValue ?_)
        have hlS : l < s.heap.objs.size := Heap.lt_size hol
        have hh3 : A.in1.in1.in1.handled = none := by simp [hh]
        have hneI : l ≠ (s.heap.push { cls := .type "set", dict := none, data := .set #[] 0 (.fresh 0 0 led) }).objs.size := by
          rw [Heap.size_push]; exact Nat.ne_of_lt (Nat.lt_succ_of_lt hlS)
        have hSf : s.heap.objs.size ∉ [(s.heap.push { cls := .type "set", dict := none, data := .set #[] 0 (.fresh 0 0 led) }).objs.size, l] := by
          rw [Heap.size_push]; simp only [List.mem_cons, List.mem_singleton, List.not_mem_nil, or_false, not_or]
          exact ⟨Nat.ne_of_lt (Nat.lt_succ_self _), Nat.ne_of_gt hlS⟩
        have hval : ∀ (i : Nat) (v : Value), items[i]? = some v → ∃ t, v = .int ((fun i => ns.getD i 0) i) t := fun i v hv =>
          IntsAre.int_at hi i v (by rw [Array.getElem?_toList]; exact hv)
        refine set_loop ((Walks.list hh3 _ l hneI items).toS) s.heap.objs.size hSf led (fun i => ns.getD i 0) hval (fun i hi => hvals _ ((hgd _).mpr ⟨i, hi, rfl⟩)) (fun zs hz hm => hmax zs hz fun y hy => (hgd y).mpr (hm y hy)) (items.size - 0) 0 _
          { cls := .type "set", dict := none, data := .set #[] 0 (.fresh 0 0 led) } (by omega) (Nat.zero_le _)
          ⟨⟨_, Heap.get?_push_size _ rfl, rfl, rfl⟩, (hl1.push _)⟩ (Heap.get?_push_of_some _ hS) ⟨[], ⟨#[], 0, 0, rfl, .nil, by decide, by decide, by decide⟩, List.nodup_nil, fun y => by simp⟩ ?hR
        case hR =>
          intro s' o' hm hS' hM
          obtain ⟨h', g', d', tk', os'⟩ := s'
          have eg : g' = s.gens := hm.gens
          have ed : d' = s.drawn := hm.drawn
          have eo : os' = s.os := hm.os
          subst eg; subst ed; subst eo
          show wpAny _ _ _ _ _ _
          refine wpAny_pure ?_
          show wpAny _ _ (ret Value.none) _ _ _
          refine wpAny_pure ⟨rfl, h', tk', o', rfl, hS', hM, fun b o hb e => ?_⟩
          have hb1 : b ≠ s.heap.objs.size := Nat.ne_of_lt hb
          have hb2 : b ≠ (s.heap.push { cls := .type "set", dict := none, data := .set #[] 0 (.fresh 0 0 led) }).objs.size := by
            rw [Heap.size_push]; exact Nat.ne_of_lt (Nat.lt_succ_of_lt hb)
          exact hm.heap b o (by simp only [List.mem_cons, List.mem_singleton, List.not_mem_nil, or_false, not_or]; exact ⟨hb1, hb2⟩) (Heap.get?_push_of_some _ (Heap.get?_push_of_some _ e))
      · cases r₂ with
        | error e => exact hr₂
        | ok fl₂ =>
          cases fl₂ with
          | ret r =>
            obtain ⟨rfl, h', tk, o', rfl, hS', ⟨zs, k1, k2, k3⟩, hk'⟩ := hr₂
            repeat (any_goals (first | assumption | wp_step))
            exact h _ _ _ zs hS' k1 k2 (fun y => (k3 y).trans (hgd y).symm) hk'
          | _ => exact hr₂.elim
    | _ => exact hr.elim
end
end SSetB
section SSetC

section
variable {prog : Program} {w : World} {A : Around} {E : Value → Shared → Prop} {s : Shared}
theorem set_hint {r : Addr} {Q : Bool → Shared → Prop} (hT : s.TypeIs (.ref r) "set") (h : Q false s) : wpAny (model prog w) A (Builtin.List.listLengthHint (.ref r)) Q E s := by
  unfold Builtin.List.listLengthHint
  refine wpAny_bind (wpAny_specialOf hT PySem.F.slot_set_len.lookup ?_)
  generalize hid : ("set.__len__" : String) = id0
  wp_delta
  rw [show splitId id0 = some ("set", "__len__") from by subst hid; decide +kernel]
  subst hid
  refine wpAny_bind (wpAny_isInstance (T := "set") (b := true) hT (by rw [isSubtype_type]; kernel_rfl) ?_)
  refine wpAny_ite_split (fun hab => absurd hab (by decide)) (fun _ => ?_)
  refine wpAny_ite_split (fun _ => ?_) (fun hab => absurd (by decide +kernel) hab)
  refine wpAny_bind (wpAny_typeOf hT ?_)
  exact wpAny_pure h
def ordS (w : World) (a : Addr) (es : Array (Int × Value)) (ep : Nat) : Array (Int × Value) := if w.params.followText "set-order" then pickOrder (w.params.setOrder a ep) es else es
def slS (w : World) (m i : Nat) : Nat := if w.params.followText "set-order" then 0 else slotAt (mk8 m) i
def itO (a : Addr) (n ep σ i : Nat) : Obj := { cls := .type "set_iterator", data := .fields #[.int σ 0, .int i 0, .ref a, .int n 0, .int ep 0] }
theorem wpAny_byText {M : Model} {Q : Bool → Shared → Prop} (h : Q (M.w.params.followText "set-order") s) : wpAny M A setsByText Q E s := by
  unfold setsByText
  exact wpAny_bind (wpAny_askSetting (wpAny_pure h))
theorem set_iter {a : Addr} {es : Array (Int × Value)} {ep m : Nat} {Q : Value → Shared → Prop} (ho : s.heap.get? a = some (setO (ledW w) es ep m)) (hf : (tbl (ledW w) (mk8 m)).fits es.size = true)
    (hQ : Q (.ref s.heap.objs.size) { s with heap := s.heap.push (itO a es.size ep 0 0) }) : wpAny (model prog w) A (pyIter (.ref a)) Q E s := by
  have hT : s.TypeIs (.ref a) "set" := ⟨_, ho, rfl⟩
  refine wpAny_pyIter_slot hT F.slot_set_iter (wpAny_call_entry F.slot_set_iter hT entry_set_iter' ?_ (F.args_set_iter_1 _))
  unfold Builtin.«frozenset.__iter__» Builtin.Frozenset.slot0 slotArgs
  simp only [List.isEmpty_nil, Bool.not_true, Bool.false_eq_true, ↓reduceIte, bind_assoc, List.length_nil, bne_self_eq_false]
  unfold Builtin.Frozenset.addrOf Builtin.Frozenset.sizeOf
  refine wpAny_bind (wpAny_pure ?_)
  try dsimp only
  refine wpAny_bind (wpAny_pure ?_)
  refine wpAny_bind (wpAny_bind (wpAny_setEntries_of ho rfl hf (wpAny_pure ?_)))
  unfold setDrawn
  refine wpAny_bind (wpAny_bind (wpAny_setState_of ho rfl hf ?_))
  dsimp only
  refine wpAny_bind (wpAny_byText (wpAny_pure ?_))
  have hd : ∀ b : Bool, (b && (!(tbl (ledW w) (mk8 m)).plain && decide (es.size > 1))) = false := fun b => by cases b <;> rfl
  refine wpAny_ite_split (fun hab => absurd ((hd _).symm.trans hab) (by decide)) (fun _ => ?_)
  refine wpAny_bind (wpAny_pure ?_)
  refine wpAny_bind (wpAny_setEpoch_of ho rfl hf ?_)
  exact wpAny_bind (wpAny_newObj_type (wpAny_pure ⟨_, rfl, "set_iterator", _, ⟨_, Heap.get?_push_size _ rfl, rfl⟩, slot_setit_next.lookup, hQ⟩))
end

section
variable {prog : Program} {w : World} {A : Around} {E : Value → Shared → Prop} {s : Shared} {a : Addr} {es : Array (Int × Value)} {ep m : Nat}
theorem set_setNext {i : Nat} {Q : Option (Value × Nat) → Shared → Prop} (ho : s.heap.get? a = some (setO (ledW w) es ep m)) (hf : (tbl (ledW w) (mk8 m)).fits es.size = true) (hm : m < 256) (hl : (mk8 m).length = es.size) (hi : i ≤ es.size)
    (hQ : Q ((ordS w a es ep)[i]?.map fun e => (e.2, slS w m (i + 1))) s) : wpAny (model prog w) A (setNext a (slS w m i) i ep) Q E s := by
  unfold setNext
  refine wpAny_bind (wpAny_setState_of ho rfl hf ?_)
  dsimp only
  refine wpAny_bind (wpAny_byText ?_)
  unfold ordS slS at *
  cases hb : w.params.followText "set-order" with
  | true =>
    rw [hb] at hQ
    rw [show (model prog w).w.params.followText "set-order" = true from hb]
    simp only [↓reduceIte, bne_self_eq_false, Bool.false_eq_true] at hQ ⊢
    refine wpAny_bind ?_
    unfold setWalk
    refine wpAny_bind (wpAny_setState_of ho rfl hf ?_)
    dsimp only
    refine wpAny_bind (wpAny_byText ?_)
    rw [show (model prog w).w.params.followText "set-order" = true from hb]
    simp only [↓reduceIte]
    refine wpAny_bind (wpAny_askSetting (wpAny_pure ?_))
    exact wpAny_pure hQ
  | false =>
    rw [hb] at hQ
    rw [show (model prog w).w.params.followText "set-order" = false from hb]
    simp only [↓reduceIte, Bool.false_eq_true] at hQ ⊢
    have hld : ledW w = true := by unfold ledW; rw [hb]; rfl
    refine wpAny_ite_split (fun hab => ?_) (fun _ => ?_)
    · exact absurd ((show ∀ k : Bool, ((!true) && k) = false from fun k => rfl) _ |>.symm.trans hab) (by decide)
    refine wpAny_bind ?_
    rw [hld]
    show wpAny _ _ (pure ()) _ _ _
    refine wpAny_pure ?_
    have hbl : SetTable.below (tbl true (mk8 m)).place (slotAt (mk8 m) i) = i := below_at hm (by rw [hl]; exact hi)
    rw [hbl]
    have hpl : (tbl true (mk8 m)).place[i]? = (mk8 m)[i]? := by show (mk8 m).toArray[i]? = _; simp
    rw [hpl]
    refine wpAny_pure ?_
    by_cases hlt : i < es.size
    · have h1 : es[i]? = some es[i] := by simp [hlt]
      have h2 : (mk8 m)[i]? = some (mk8 m)[i] := List.getElem?_eq_getElem (hl ▸ hlt)
      rw [h1] at hQ ⊢
      rw [h2]
      dsimp only [Option.map_some] at hQ ⊢
      have e : slotAt (mk8 m) (i + 1) = (mk8 m)[i] + 1 := by
        unfold slotAt
        rw [if_neg (Nat.succ_ne_zero _), Nat.add_sub_cancel, List.getD_eq_getElem?_getD, h2]
        rfl
      rw [e] at hQ
      exact hQ
    · have h1 : es[i]? = none := by simp; omega
      rw [h1] at hQ ⊢
      exact hQ
theorem set_next {it n i : Nat} {e : Int × Value} {Q : Option Value → Shared → Prop} (hit : s.heap.get? it = some (itO a n ep (slS w m i) i)) (ho : s.heap.get? a = some (setO (ledW w) es ep m)) (hf : (tbl (ledW w) (mk8 m)).fits es.size = true) (hm : m < 256) (hl : (mk8 m).length = es.size) (hn : n = es.size)
    (hi : i ≤ es.size) (he : (ordS w a es ep)[i]? = some e) (hQ : ∀ h', h'.get? it = some (itO a n ep (slS w m (i + 1)) (i + 1)) → Heap.SameBut it s.heap h' → Q (some e.2) { s with heap := h' }) :
    wpAny (model prog w) A (pyNext (.ref it)) Q E s := by
  subst hn
  have hT : s.TypeIs (.ref it) "set_iterator" := ⟨_, hit, rfl⟩
  unfold pyNext
  refine wpAny_bind (wpAny_attempt (wpAny_callSpecial?_slot (name := Str.ofString "__next__") hT slot_setit_next
    (wpAny_call_entry slot_setit_next hT entry_setit_next ?_ (args_setit_next _))))
  unfold Builtin.«set_iterator.__next__»
  show wpAny _ _ (fieldsOf (.ref it) >>= _) _ _ s
  refine wpAny_bind (wpAny_fieldsOf hit rfl ?_)
  show wpAny _ _ (setEntries a >>= _) _ _ s
  refine wpAny_bind (wpAny_setEntries_of ho rfl hf ?_)
  refine wpAny_ite_split (fun hab => absurd hab (by simp)) (fun _ => ?_)
  show wpAny _ _ (setNext a (Int.toNat (slS w m i : Nat)) (Int.toNat (i : Nat)) (Int.toNat (ep : Nat)) >>= _) _ _ s
  rw [Int.toNat_natCast, Int.toNat_natCast, Int.toNat_natCast]
  refine wpAny_bind (set_setNext ho hf hm hl hi ?_)
  rw [he]
  dsimp only [Option.map_some]
  refine wpAny_bind (wpAny_setField hit rfl (by simp) ?_)
  have g1 := Heap.get?_update_self (Obj.mapFields (·.setIfInBounds 0 (rawInt (slS w m (i + 1) : Nat)))) hit rfl
  refine wpAny_bind (wpAny_setField g1 rfl (by simp) ?_)
  have g2 := Heap.get?_update_self (Obj.mapFields (·.setIfInBounds 1 (rawInt ((i : Nat) + 1)))) g1 rfl
  refine wpAny_pure ⟨e.2, rfl, wpAny_pure (hQ _ ?_ ((Heap.SameBut.update ..).trans (Heap.SameBut.update ..)))⟩
  exact g2
theorem set_end {it n i : Nat} {Q : Option Value → Shared → Prop} (hh : A.handled = none) (hit : s.heap.get? it = some (itO a n ep (slS w m i) i)) (ho : s.heap.get? a = some (setO (ledW w) es ep m)) (hf : (tbl (ledW w) (mk8 m)).fits es.size = true) (hm : m < 256) (hl : (mk8 m).length = es.size) (hn : n = es.size)
    (hi : i ≤ es.size) (he : (ordS w a es ep)[i]? = none) (hQ : ∀ h', Heap.ExtBut it s.heap h' → Q none { s with heap := h' }) :
    wpAny (model prog w) A (pyNext (.ref it)) Q E s := by
  subst hn
  have hT : s.TypeIs (.ref it) "set_iterator" := ⟨_, hit, rfl⟩
  unfold pyNext
  refine wpAny_bind (wpAny_attempt (wpAny_callSpecial?_slot (name := Str.ofString "__next__") hT slot_setit_next
    (wpAny_call_entry slot_setit_next hT entry_setit_next ?_ (args_setit_next _))))
  unfold Builtin.«set_iterator.__next__»
  show wpAny _ _ (fieldsOf (.ref it) >>= _) _ _ s
  refine wpAny_bind (wpAny_fieldsOf hit rfl ?_)
  show wpAny _ _ (setEntries a >>= _) _ _ s
  refine wpAny_bind (wpAny_setEntries_of ho rfl hf ?_)
  refine wpAny_ite_split (fun hab => absurd hab (by simp)) (fun _ => ?_)
  show wpAny _ _ (setNext a (Int.toNat (slS w m i : Nat)) (Int.toNat (i : Nat)) (Int.toNat (ep : Nat)) >>= _) _ _ s
  rw [Int.toNat_natCast, Int.toNat_natCast, Int.toNat_natCast]
  refine wpAny_bind (set_setNext ho hf hm hl hi ?_)
  rw [he]
  dsimp only [Option.map_none]
  refine wpAny_bind (wpAny_setField hit rfl (by simp) ?_)
  show wpAny _ _ (newExc (.type "StopIteration") [] >>= _) _ _ _
  refine wpAny_bind ?_
  simp only [newExc, newTuple]
  refine wpAny_bind (wpAny_newObj_type ?_ (by size_fits))
  refine wpAny_bind (m := firstArgMember _ _) (wpAny_of_eq (a := Value.none) (by first | rfl | (simp only [firstArgMember]; rfl)) ?_)
  refine wpAny_newObj_type ?_ (by size_fits)
  simp only [raiseNew]
  refine wpAny_bind (wpAny_handled ?_)
  first | rw [show A.in1.handled = none from hh] | rw [hh]
  refine wpAny_bind (wpAny_pure (wpAny_throw ?_))
  refine wpAny_bind (wpAny_isInstance (T := "StopIteration") (b := true) ⟨_, Heap.get?_push_size _ rfl, rfl⟩ isSubtype_stop ?_)
  exact wpAny_pure (hQ _ (((Heap.SameBut.update ..).extBut.push _).push _))
end

theorem eraseIdx_perm {α : Type} : ∀ (l : List α) (i : Nat) (x : α), l[i]? = some x → l.Perm (x :: l.eraseIdx i)
  | [], _, _, h => by cases h
  | y :: l, 0, x, h => by cases h; exact .refl _
  | y :: l, i + 1, x, h => ((eraseIdx_perm l i x (by simpa using h)).cons y).trans (List.Perm.swap x y _)
theorem pickOrder_perm {α : Type} (next : Nat → Nat) (xs : Array α) : List.Perm (pickOrder next xs).toList xs.toList := by
  have go : ∀ (fuel k : Nat) (left : List α) (out : Array α), left.length = fuel → List.Perm (pickOrder.go next fuel k left out).toList (out.toList ++ left) := by
    intro fuel
    induction fuel with
    | zero =>
      intro k left out h
      rw [List.eq_nil_of_length_eq_zero h, List.append_nil]
      exact .refl _
    | succ n ih =>
      intro k left out h
      have hlt : next k % left.length < left.length := Nat.mod_lt _ (by omega)
      have e : left[next k % left.length]? = some left[next k % left.length] := List.getElem?_eq_getElem hlt
      unfold pickOrder.go
      rw [e]
      dsimp only
      refine (ih (k + 1) _ _ (by rw [List.length_eraseIdx, if_pos hlt, h]; rfl)).trans ?_
      rw [Array.toList_push, List.append_assoc]
      exact List.Perm.append_left _ (eraseIdx_perm _ _ _ e).symm
  exact go xs.size 0 xs.toList #[] (by simp)
theorem Ents.perm {l l' : List (Int × Value)} (p : List.Perm l l') : ∀ {zs : List Int}, Ents l zs → ∃ zs', Ents l' zs' ∧ zs'.Perm zs := by
  induction p with
  | nil => intro zs h; exact ⟨zs, h, .refl _⟩
  | cons x _ ih =>
    intro zs h
    cases h with
    | cons z t r => obtain ⟨zs', h', q⟩ := ih r; exact ⟨z :: zs', .cons z t h', q.cons z⟩
  | swap x y l =>
    intro zs h
    cases h with
    | cons z t r => cases r with
      | cons z2 t2 r2 => exact ⟨_, .cons z2 t2 (.cons z t r2), List.Perm.swap _ _ _⟩
  | trans _ _ ih1 ih2 =>
    intro zs h
    obtain ⟨zs1, h1, q1⟩ := ih1 h
    obtain ⟨zs2, h2, q2⟩ := ih2 h1
    exact ⟨zs2, h2, q2.trans q1⟩
theorem ordS_perm (w : World) (a : Addr) (es : Array (Int × Value)) (ep : Nat) : List.Perm (ordS w a es ep).toList es.toList := by
  unfold ordS
  split
  · exact pickOrder_perm _ _
  · exact .refl _
section
variable {prog : Program} {w : World} {A : Around} {E : Value → Shared → Prop} {s : Shared} {a : Addr} {es : Array (Int × Value)} {ep m : Nat} {zs : List Int}
theorem walks_set (hh : A.handled = none) (I : Addr) (hne : a ≠ I) (hf : (tbl (ledW w) (mk8 m)).fits es.size = true) (hm : m < 256) (hl : (mk8 m).length = es.size) :
    Walks prog w A I [I, a] [I] es.size (fun i v => ∃ e, (ordS w a es ep)[i]? = some e ∧ v = e.2) (fun i h => i ≤ es.size ∧ h.get? I = some (itO a es.size ep (slS w m i) i) ∧ h.get? a = some (setO (ledW w) es ep m)) where
  sub := fun b hb => by simp at hb; simp [hb]
  frame := fun _ _ _ st hk => ⟨st.1, hk I (by simp) _ st.2.1, hk a (by simp) _ st.2.2⟩
  item := fun i s Q E hi st hQ => by
    have hsz : (ordS w a es ep).size = es.size := by rw [← Array.length_toList, (ordS_perm w a es ep).length_eq, Array.length_toList]
    have he : (ordS w a es ep)[i]? = some (ordS w a es ep)[i] := by simp [hsz, hi]
    refine set_next st.2.1 st.2.2 hf hm hl rfl st.1 he fun h' hit' hs' => ?_
    exact hQ _ h' s.toks ⟨_, he, rfl⟩ ⟨hi, hit', (hs'.2 a hne).trans st.2.2⟩ fun b o hb e => hs'.extBut b o (fun h => hb (by simp [h])) e
  done := fun s Q E st hQ => by
    have hsz : (ordS w a es ep).size = es.size := by rw [← Array.length_toList, (ordS_perm w a es ep).length_eq, Array.length_toList]
    refine set_end hh st.2.1 st.2.2 hf hm hl rfl st.1 (by simp [hsz]) fun h' he' => hQ h' s.toks fun b o hb e => he' b o (fun h => hb (by simp [h])) e
  self := fun i s Q E st hQ => by
    have hT : s.TypeIs (.ref I) "set_iterator" := ⟨_, st.2.1, rfl⟩
    refine wpAny_pyIter_slot hT slot_setit_iter (wpAny_call_entry slot_setit_iter hT entry_setit_iter ?_ (args_setit_iter _))
    show wpAny _ _ (ret (.ref I)) _ _ s
    exact wpAny_pure ⟨_, rfl, "set_iterator", _, hT, slot_setit_next.lookup, hQ⟩
theorem kdl_set (hf : (tbl (ledW w) (mk8 m)).fits es.size = true) (hm : m < 256) (hl : (mk8 m).length = es.size) :
    KdlSrc prog w "set" a a es.size (fun i v => ∃ e, (ordS w a es ep)[i]? = some e ∧ v = e.2) (fun h => h.get? a = some (setO (ledW w) es ep m)) where
  type := fun s ok => ⟨_, ok, rfl⟩
  there := fun h ok => ⟨Heap.lt_size ok, Heap.lt_size ok⟩
  keep := fun h h' ok k => k a (.inl rfl) _ ok
  notList := by decide
  notTuple := by decide
  hint := fun A E s Q ok q => set_hint ⟨_, ok, rfl⟩ q
  iter := fun A s hh ok => ⟨itO a es.size ep 0 0, _, fun E Q q => set_iter ok hf q, walks_set hh _ (Nat.ne_of_lt (Heap.lt_size ok)) hf hm hl, Nat.zero_le _, by
    have : slS w m 0 = 0 := by unfold slS slotAt; split <;> rfl
    rw [this]
    exact Heap.get?_push_size _ rfl, Heap.get?_push_of_some _ ok⟩
end
end SSetC
section SSetD

theorem out_ints {acc out : List Value} {ws : List Int} (hi : IntsAre acc ws) (ko : KskOut false (ws.map iab) acc out) : ∃ ys, IntsAre out ys ∧ ys.Perm ws ∧ ys.Pairwise (fun x y => iab x ≤ iab y) := by
  obtain ⟨ps, hp, rfl, hs⟩ := ko
  have hrel : ∀ p, p ∈ (ws.map iab).zip acc → p.1 = iab (numOf p.2) ∧ p.2 ∈ acc := by
    rw [← hi.nums, List.map_map, List.zip_map_left]
    intro p hp
    obtain ⟨⟨u, v⟩, hq, rfl⟩ := List.mem_map.mp hp
    obtain ⟨h1, h2⟩ : u = v ∧ u ∈ acc := mem_zip_self hq
    subst h1
    exact ⟨rfl, h2⟩
  refine ⟨(ps.map Prod.snd).map numOf, intsAre_map _ fun v hv => ?_, ?_, ?_⟩
  · obtain ⟨p, hp', rfl⟩ := List.mem_map.mp hv
    exact hi.all _ (hrel p (hp.mem_iff.mp hp')).2
  · have h1 := (hp.map Prod.snd).map numOf
    rw [List.map_snd_zip (by rw [List.length_map, hi.length]; exact Nat.le_refl _), hi.nums] at h1
    exact h1
  · rw [List.pairwise_map, List.pairwise_map]
    refine hs.imp_of_mem fun {p q} hp' hq' hr => ?_
    have hr' : p.1 ≤ q.1 := hr
    rw [(hrel p (hp.mem_iff.mp hp')).1, (hrel q (hp.mem_iff.mp hq')).1] at hr'
    exact hr'
theorem abs_turn {prog : Program} {w : World} {A : Around} {g h : Heap} {L : Addr} {m : Str → Option Value} {s : Shared} {need : List (Addr × Obj)} {n : Int} {t : Tok} {tk : Nat} (F : Fr g L h m) (N : News g L h need) :
    wpAny (model prog w) A (call (.builtin "abs") [.int n t]) (KskEnd g L m need (iab n) { s with heap := h, toks := tk }) (fun _ _ => False) { s with heap := h, toks := tk } :=
  call_abs_int fun u tk' => ⟨h, tk', u, rfl, rfl, F, N⟩
section
variable {prog : Program} {w : World} {A : Around} {E : Value → Shared → Prop} {s : Shared} {g : Heap} {L S : Addr} {m : Str → Option Value} {news : List (Addr × Obj)} {Q : Value → Shared → Prop} {zs : List Int} {o : Obj}
theorem set_sorted (F : Fr g L s.heap m) (N : News g L s.heap news) (hh : A.handled = none) (hS : s.heap.get? S = some o) (hok : SetOk o (ledW w) zs)
    (h : ∀ D h' tk out c ys, Fr g L h' m → News g L h' ((D, listOf (List.toArray out) c) :: news) → (∀ q ∈ news, q.1 < D) → IntsAre out ys → ys.Perm zs → ys.Pairwise (fun x y => iab x ≤ iab y) → Q (.ref D) { s with heap := h', toks := tk }) :
    wpAny (model prog w) A (call (.builtin "sorted") [.ref S] [(Str.ofString "key", .builtin "abs")]) Q E s := by
  obtain ⟨es, ep, mm, rfl, he, hm, hl, h4⟩ := hok.is
  have hsz := he.size
  have hf : (tbl (ledW w) (mk8 mm)).fits es.size = true := tbl_fits (by rw [hsz]; exact hl) (by rw [hsz]; exact h4)
  have src := kdl_set (prog := prog) (w := w) (a := S) (es := es) (ep := ep) (m := mm) hf hm (by rw [hsz]; exact hl)
  refine sorted_src (b := false) (f := .builtin "abs") (fun acc => ∃ ws, IntsAre acc ws ∧ ws.Perm zs) (fun acc ⟨ws, iw, pw⟩ => by rw [iw.length, pw.length_eq]; omega)
    (fun R hR => kdu_collect src (by simp [hh]) hS (by rw [sizeLine_eq, hsz]; omega) fun h' tk acc hk it => hR h' tk acc.toList hk ?_) (ksk_s1 _ _) (fun _ => ksk_l1 _ _) (fun _ => ksk_t4 _ _) ?_
  · obtain ⟨ws, ew, pw⟩ := Ents.perm (ordS_perm w S es ep).symm he
    refine ⟨ws, ?_, pw⟩
    have hac : acc.toList = (ordS w S es ep).toList.map (·.2) := by
      refine List.ext_getElem? fun j => ?_
      by_cases hj : j < es.size
      · have h1 : acc[j]? = some (acc[j]'(by rw [it.1]; exact hj)) := by simp [it.1, hj]
        obtain ⟨e, e1, e2⟩ := it.2 j _ h1
        rw [Array.getElem?_toList, h1, List.getElem?_map, Array.getElem?_toList, e1, e2]
        rfl
      · have hsz2 : (ordS w S es ep).size = es.size := by rw [← Array.length_toList, (ordS_perm w S es ep).length_eq, Array.length_toList]
        rw [List.getElem?_eq_none (by rw [Array.length_toList, it.1]; omega), List.getElem?_eq_none (by rw [List.length_map, Array.length_toList, hsz2]; omega)]
    rw [hac]
    exact ew.vals
  · rintro acc D h' tk ⟨ws, iw, pw⟩ hk hD hlt
    obtain ⟨oL, _, _, eL, _⟩ := F.ns
    have hg : g.get? D = none := by
      cases q : g.get? D with
      | none => rfl
      | some o => exact absurd (hlt _ _ (F.keep _ _ q)) (Nat.lt_irrefl _)
    refine ksk_sort (kz := ws.map iab) (F.kept hk) (N.grown hk) hD (Nat.ne_of_gt (hlt _ _ eL)) hg (fun p hp => Nat.ne_of_lt (hlt _ _ (N p hp).1)) (by rw [List.length_map, iw.length]) (by rw [iw.length, pw.length_eq]; omega)
      (fun i v k hv hk2 h2 tk2 own F2 N2 => ?_) fun h2 tk2 out c F2 N2 ko => ?_
    · rw [List.getElem?_map] at hk2
      cases q : ws[i]? with
      | none => rw [q] at hk2; cases hk2
      | some n =>
        rw [q] at hk2
        cases hk2
        obtain ⟨t, ht⟩ := iw.get i n q
        rw [ht] at hv
        cases hv
        exact abs_turn F2 N2
    · obtain ⟨ys, iy, py, oy⟩ := out_ints iw ko
      refine ⟨rfl, h D h2 tk2 out.toList c ys F2 ?_ (fun q hq => hlt _ _ (N q hq).1) iy (py.trans pw) oy⟩
      have : listOf (List.toArray out.toList) c = seqObj "list" out c := by rw [Array.toArray_toList]
      rw [this]
      exact N2
end
end SSetD
theorem word28 : True := by
  k_with_none
  k_with "call builtin:len" => (k_here; (with_reducible show wpAny _ _ (call (Value.builtin "len") [Value.ref _]) _ _ _); (with_unfolding_all refine' len_tupI ?k1 ?k2 ?k3 ?_; (case k1 => first | assumption | exact Fr.tup (by assumption) (by assumption)); (case k2 => l_ints); (case k3 => l_fit); k_whole))
  k_with "call builtin:len" => (k_here; (with_reducible show wpAny _ _ (call (Value.builtin "len") [Value.ref _]) _ _ _); (with_unfolding_all refine' len_lst ?k1 ?k3 ?_; (case k1 => exact News.isList (by k_asm) (by k_mem)); (case k3 => (simp only [List.length_map]; omega)); k_whole))
  k_with "subscriptTail" => (k_here; (with_reducible show wpAny _ _ (subscriptTail _ _ (Value.ref _) (Value.int _ _)) _ _ _); (with_unfolding_all refine' item_tuple_ints ?k1 ?k2 ?k3 ?k4 ?k5 ?_ ?k6 ?k7; (case k1 => first | assumption | exact Fr.tup (by assumption) (by assumption)); (case k2 => l_ints); (case k3 => omega); (case k4 => omega); (case k5 => omega); (case k6 => with_unfolding_all rfl); (case k7 => (intro _; with_unfolding_all rfl)); k_whole); intro _)
  k_with "subscriptTail" => (k_here; (with_reducible show wpAny _ _ (subscriptTail _ _ (Value.ref _) (Value.int _ _)) _ _ _); (with_unfolding_all refine' item_listR ?k1 ?k2 ?k3 ?k4 ?_ ?k6; (case k4 => assumption); (case k1 => exact News.isList (by k_asm) (by k_mem)); (case k2 => omega); (case k3 => omega); (case k6 => with_unfolding_all rfl); k_whole))
  k_with "exec For Name Name cons nil" => (k_here; (rename Fr _ _ _ _ => lF'); (with_unfolding_all refine' for_walksF lF' ?k1 ?k2 ?_; (case k1 => exact rfl); (case k2 => exact rfl); k_whole))
  k_with "exec For Name Call cons nil" => (k_here; (rename Fr _ _ _ _ => lF'); (with_unfolding_all refine' for_walksF lF' ?k1 ?k2 ?_; (case k1 => exact rfl); (case k2 => exact rfl); k_whole))
  trivial
section SRsv

theorem news_list {g h : Heap} {L : Addr} {x y : List (Addr × Obj)} (N : News g L h (x ++ y)) : News g L h (x ++ y) := N
theorem in_led {prog : Program} {w : World} {A : Around} {E Q : Value → Shared → Prop} {s : Shared} {g : Heap} {L D : Addr} {news : List (Addr × Obj)} {vs : List Value} {ns : List Int} {n : Nat} {x : Int} {u : Tok} (N : News g L s.heap news) (hm : (D, listOf vs.toArray n) ∈ news) (hi : IntsAre vs ns)
    (hq : Q (.bool (ns.any (· == x))) s) : wpAny (model prog w) A (compareOp .In (.int x u) (.ref D)) Q E s := in_list_ints (N.isList hm) hi hq
theorem word29 : True := by
  k_with "compareOp In int ref" => (k_here; k_dflt (first | refine in_yes (by k_asm) (by assumption) (by assumption) (by assumption) ?_ | refine in_no (by k_asm) (by assumption) (by assumption) (by assumption) ?_ | refine in_led (by k_asm) (by k_mem) (by assumption) ?_))
  k_with "eval ListComp" => (k_here; k_dflt (refine' eval_ints ?k1 ?k2 ?k3 ?k4 ?k5 ?_; (case k1 => with_unfolding_all rfl); (case k2 => decide); (case k3 => rfl); (case k4 => decide); (case k5 => rfl); k_whole))
  k_with "exec Assign cons ListComp" => (k_here; k_dflt (refine' assign_ints ?k0 ?k1 ?k2 ?k3 ?k4 ?k5 ?k6 ?k7 ?_; (case k0 => with_unfolding_all rfl); (case k1 => with_unfolding_all rfl); (case k2 => decide); (case k3 => rfl); (case k4 => decide); (case k5 => rfl); (case k6 => rfl); (case k7 => rfl); k_whole))
  trivial
theorem clean_of {R : List Int} (h : decide (List.filter (fun x => R.any (· == 0 - x)) R = []) = true) : Clean R := fun x hx hn => by
  have h := of_decide_eq_true h
  have : x ∈ List.filter (fun x => R.any (· == 0 - x)) R := List.mem_filter.mpr ⟨hx, List.any_eq_true.mpr ⟨-x, hn, by rw [Int.zero_sub]; exact beq_self_eq_true _⟩⟩
  rw [h] at this
  cases this
theorem dirty_of {R : List Int} (h : decide (List.filter (fun x => R.any (· == 0 - x)) R = []) = false) : ∃ x ∈ R, -x ∈ R := by
  have h := of_decide_eq_false h
  obtain ⟨x, hx⟩ := List.exists_mem_of_ne_nil _ h
  obtain ⟨h1, h2⟩ := List.mem_filter.mp hx
  obtain ⟨y, hy, e⟩ := List.any_eq_true.mp h2
  have e' : y = 0 - x := beq_iff_eq.mp e
  rw [Int.zero_sub] at e'
  exact ⟨x, h1, e' ▸ hy⟩
theorem rest_vals {xs ys : List Int} {v : Int} (tx : Tid xs) (ty : Tid ys) : ∀ y ∈ rest xs ys v, y ∈ vals := fun y hy => by
  obtain ⟨h1, h2, _⟩ := rest_rng tx ty y hy
  have : y = -5 ∨ y = -4 ∨ y = -3 ∨ y = -2 ∨ y = -1 ∨ y = 1 ∨ y = 2 ∨ y = 3 ∨ y = 4 ∨ y = 5 := by
    unfold iab at h1 h2
    split at h1 <;> omega
  unfold vals
  simp only [List.mem_cons, List.not_mem_nil, or_false]
  exact this
theorem abs_inj {R zs : List Int} (hc : Clean R) (hm : ∀ y ∈ zs, y ∈ R) (hn : zs.Nodup) : (zs.map iab).Nodup := by
  refine List.pairwise_map.mpr (List.Pairwise.imp_of_mem (fun {x y} hx hy hne e => ?_) hn)
  rcases iab_inj e with q | q
  · exact hne q
  · subst q; exact hc y (hm y hy) (hm _ hx)
theorem rest_max {xs ys : List Int} {v : Int} (hv : 1 ≤ v ∧ v ≤ 5) (tx : Tid xs) (ty : Tid ys) (hc : Clean (rest xs ys v)) : ∀ zs : List Int, zs.Nodup → (∀ y ∈ zs, y ∈ rest xs ys v) → zs.length ≤ 4 := fun zs hn hm => by
  have := nodup_len (zs.map iab) (([1, 2, 3, 4, 5] : List Int).filter (· != v)) (abs_inj hc hm hn) fun y hy => by
    obtain ⟨x, hx, rfl⟩ := List.mem_map.mp hy
    obtain ⟨h1, h2, h3⟩ := rest_rng tx ty x (hm x hx)
    refine List.mem_filter.mpr ⟨by simp; omega, by simpa using h3⟩
  rw [List.length_map] at this
  have h5 : v = 1 ∨ v = 2 ∨ v = 3 ∨ v = 4 ∨ v = 5 := by omega
  refine Nat.le_trans this ?_
  rcases h5 with rfl | rfl | rfl | rfl | rfl <;> decide
theorem abs_strict {R zs : List Int} (hc : Clean R) (hm : ∀ y, y ∈ zs ↔ y ∈ R) (hn : zs.Nodup) (ho : zs.Pairwise (fun x y => iab x ≤ iab y)) : (zs.map iab).Pairwise (· < ·) := by
  have h1 := abs_inj hc (fun y hy => (hm y).mp hy) hn
  have h2 : (zs.map iab).Pairwise (· ≤ ·) := List.pairwise_map.mpr ho
  exact (List.Pairwise.and h1 h2).imp fun ⟨a, b⟩ => by omega
section
variable {w : World} {mean : ExcName → Option Value} {mg mb : Str → Option Value} {B : Heap} {s : Shared} {Q E : Value → Shared → Prop}
theorem resolved_none_c (X : (Mine.hd.heap_39 w.params).In B) (T : Tp mean mg mb B) (hB : B.StaysIn s.heap) {b : Addr} {v : Int} {tv : Tok}
    (hret : ∀ h' tk, Keep [] s.heap h' → Q .none { s with heap := h', toks := tk }) :
    wpAny (model PySem.Challenge.rw_rg0222_01.row.prog w) (lo 690 4900) (call (.ref 725) [.none, .ref b, .int v tv]) Q E s := by
  refine wpAny_call ?_
  k_dflt (refine' enterC (binds := [(Str.ofString "one", .none), (Str.ofString "other", .ref b), (Str.ofString "var", .int v tv)]) [] X T.nolimit hB (by simp) ?k6 ?k7 ?k8 ?k9 ?kB ?kC ?_ ?c2 ?c3 ?c4; (case k6 => k_is); (case k7 => k_is); (case k8 => decide); (case k9 => exact BindsTo.of_eq rfl); (case kB => exact rfl); (case kC => decide); (case c2 => exact rfl); (case c3 => exact rfl); (case c4 => exact rfl))
  intro g L h₁ tk₁ cells hg hL F N Y hk₁ sg Xg
  have Tg := T.keeps sg
  k_cells Y
  refine wpAny_mono (E := fun _ _ => False) ?_ (fun _ _ h => h) (fun _ _ h => h.elim)
  k_fold
  k_steps
  exact hret _ _ (Keep.of_all hk₁)
theorem resolved_c (X : (Mine.hd.heap_39 w.params).In B) (T : Tp mean mg mb B) (hB : B.StaysIn s.heap) {a b : Addr} {xs ys : List Int} {v : Int} {tv : Tok} (ha : TupInts s.heap a xs) (hb : TupInts s.heap b ys) (tx : Tid xs) (ty : Tid ys) (hv : 1 ≤ v ∧ v ≤ 5)
    (hretN : resP xs ys v = none → ∀ h' tk, Keep [] s.heap h' → Q .none { s with heap := h', toks := tk })
    (hretS : ∀ zs, resP xs ys v = some zs → ∀ h' tk D, Keep [] s.heap h' → TupInts h' D zs → s.heap.get? D = none → Q (.ref D) { s with heap := h', toks := tk }) :
    wpAny (model PySem.Challenge.rw_rg0222_01.row.prog w) (lo 690 4900) (call (.ref 725) [.ref a, .ref b, .int v tv]) Q E s := by
  refine wpAny_call ?_
  k_dflt (refine' enterC (binds := [(Str.ofString "one", .ref a), (Str.ofString "other", .ref b), (Str.ofString "var", .int v tv)]) [] X T.nolimit hB (by simp) ?k6 ?k7 ?k8 ?k9 ?kB ?kC ?_ ?c2 ?c3 ?c4; (case k6 => k_is); (case k7 => k_is); (case k8 => decide); (case k9 => exact BindsTo.of_eq rfl); (case kB => exact rfl); (case kC => decide); (case c2 => exact rfl); (case c3 => exact rfl); (case c4 => exact rfl))
  intro g L h₁ tk₁ cells hg hL F N Y hk₁ sg Xg
  have Tg := T.keeps sg
  k_cells Y
  obtain ⟨vx, ix, hx⟩ := ha
  obtain ⟨vy, iy, hy⟩ := hb
  have hxg : IsTup g a vx.toArray := by
    obtain ⟨o, ho, r⟩ := hx
    exact ⟨o, hide1 hg ho (by simp), r⟩
  have hyg : IsTup g b vy.toArray := by
    obtain ⟨o, ho, r⟩ := hy
    exact ⟨o, hide1 hg ho (by simp), r⟩
  have hxl := tx.len
  have hyl := ty.len
  refine wpAny_mono (E := fun _ _ => False) ?_ (fun _ _ h => h) (fun _ _ h => h.elim)
  k_fold
  have hv1 : iab v = v := iab_pos hv.1
  have hv2 : iab (-v) = v := by rw [iab_neg, hv1]
  have hv1 : iab v = v := iab_pos hv.1
  have hv2 : iab (-v) = v := by rw [iab_neg, hv1]
  have hv1 : iab v = v := iab_pos hv.1
  have hv2 : iab (-v) = v := by rw [iab_neg, hv1]
  have hv1 : iab v = v := iab_pos hv.1
  have hv2 : iab (-v) = v := by rw [iab_neg, hv1]
  by_cases c1 : v ∈ xs
  · have n1 : 0 - v ∉ xs := by rw [Int.zero_sub]; exact tx.opp c1
    by_cases c2 : 0 - v ∈ ys
    · have hfx : xs.filter (fun x => x != v) = xs.filter (fun x => iab x != v) := by rw [tx.filt c1, hv1]
      have hfy : ys.filter (fun x => x != 0 - v) = ys.filter (fun x => iab x != v) := by rw [ty.filt c2, Int.zero_sub, hv2]
      have hcl : Clash xs ys v := .inl ⟨c1, by rw [← Int.zero_sub]; exact c2⟩
      k_steps
      rename Fr _ _ _ _ => F2
      rename News _ _ _ _ => N2
      refine IntsC.intro (fun x => x != v) (fun x => x) rfl F2 N2 (.inl hxg) ix (by omega) (fun n t C oC m₂ h tk hn no hm F3 N3 hne => ?_) ?_
      · clear F2 N2
        k_steps
        · exact ⟨by simpa using (by assumption : n ≠ v), ⟨_, rfl⟩, _, _, rfl, Keep.refl _ _⟩
        · exact ⟨by simpa using (by assumption : n = v), _, _, rfl, Keep.refl _ _⟩
      · intro D zs h' tk n F4 N4 l4 iz
        rw [List.map_id', hfx] at iz
        k_lt l4
        clear F2 N2
        k_steps
        rename Fr _ _ _ _ => F2
        rename News _ _ _ _ => N2
        refine IntsC.intro (fun x => x != 0 - (v)) (fun x => x) rfl F2 N2 (.inl hyg) iy (by omega) (fun n t C oC m₂ h tk hn no hm F3 N3 hne => ?_) ?_
        · clear F2 N2
          k_steps
          · exact ⟨by simpa using (by assumption : n ≠ 0 - (v)), ⟨_, rfl⟩, _, _, rfl, Keep.refl _ _⟩
          · exact ⟨by simpa using (by assumption : n = 0 - (v)), _, _, rfl, Keep.refl _ _⟩
        · intro D2 zs2 h' tk n F4 N4 l5 iz2
          rw [List.map_id', hfy] at iz2
          k_lt l5
          clear F2 N2
          have z1 : zs.length < 1000 := by rw [iz.length]; exact Nat.lt_of_le_of_lt (List.length_filter_le ..) (by omega)
          have z2 : zs2.length < 1000 := by rw [iz2.length]; exact Nat.lt_of_le_of_lt (List.length_filter_le ..) (by omega)
          have ir : IntsAre (zs ++ zs2) (rest xs ys v) := ints_app iz2 iz
          k_steps
          rename Fr _ _ _ _ => F5
          rename News _ _ _ _ => N5
          replace N5 := news_list N5
          refine IntsC.intro (fun x => (rest xs ys v).any (· == 0 - x)) (fun x => x) rfl F5 N5 (.inr (.inr ⟨_, .head _⟩)) ir (Nat.lt_trans (rest_len xs ys v (by omega) (by omega)) (by decide)) (fun n t C oC m₂ h tk hn no hm F3 N3 hne => ?_) ?_
          · clear F5 N5
            k_steps
            · exact ⟨by assumption, ⟨_, rfl⟩, _, _, rfl, Keep.refl _ _⟩
            · exact ⟨by assumption, _, _, rfl, Keep.refl _ _⟩
          · intro D3 zs3 h' tk n F6 N6 l6 iz3
            rw [List.map_id'] at iz3
            k_lt l6
            clear F5 N5
            k_steps
            · rename Fr _ _ _ _ => F7
              rename News _ _ _ _ => N7
              have hcn : Clean (rest xs ys v) := clean_of (by assumption)
              refine call_set (items := (zs ++ zs2).toArray) rfl ⟨_, (N7 _ (.tail _ (.tail _ (.head _)))).1, rfl, _, rfl⟩ ir (rest_vals tx ty) (rest_max hv tx ty hcn) fun h' tk o ws hS hok hnd hmem hk => ?_
              have F8 := F7.kept fun b o e => hk b o (Heap.lt_size e) e
              have N8 : News g _ h' _ := N7.grown fun b o e => hk b o (Heap.lt_size e) e
              clear F7 N7
              k_steps
              (with_unfolding_all show wpAny _ _ (call (Value.builtin "sorted") [Value.ref _] [(Str.ofString "key", Value.builtin "abs")]) _ _ _)
              refine set_sorted F8 N8 rfl hS hok fun D4 h' tk out c zz F9 N9 l9 iz4 pz oz => ?_
              k_lt l9
              clear F8 N8
              k_steps
              rename Fr _ _ _ _ => F10
              rename News _ _ _ _ => N10
              have hmz : ∀ y, y ∈ zz ↔ y ∈ rest xs ys v := fun y => pz.mem_iff.trans (hmem y)
              have hst := abs_strict hcn hmz (pz.nodup_iff.mpr hnd) oz
              have hres := resP_some hcl hcn
              rw [← rest_canon tx ty hcn hmz hst] at hres
              have lo4 : out.length ≤ 4 := by rw [iz4.length, pz.length_eq]; obtain ⟨_, _, _, _, _, _, _, h4⟩ := hok.is; exact h4
              refine kde_tupleOf F10 N10 (N10.isList (.head _)) (by simp; omega) (List.toList_toArray ..) fun D' h3 F11 N11 l11 => ?_
              have q := (N11 _ (.head _)).2.2
              rw [hg] at q
              exact hretS zz hres _ _ D' (Keep.of_base hg F11.keep) ⟨out, iz4, _, (N11 _ (.head _)).1, rfl, 0, rfl⟩ q
            · rename Fr _ _ _ _ => F7
              exact hretN (resP_dirty hcl (dirty_of (by assumption))) _ _ (Keep.of_base hg F7.keep)
    · have hno : resP xs ys v = none := resP_noclash fun q => q.elim (fun q => c2 (by rw [Int.zero_sub]; exact q.2)) fun q => n1 (by rw [Int.zero_sub]; exact q.1)
      k_steps
      exact hretN hno _ _ (Keep.of_all hk₁)
  · by_cases c2 : 0 - v ∈ xs
    · have c2' : -v ∈ xs := by rw [← Int.zero_sub]; exact c2
      by_cases c3 : v ∈ ys
      · have hfx : xs.filter (fun x => x != 0 - v) = xs.filter (fun x => iab x != v) := by rw [tx.filt c2, Int.zero_sub, hv2]
        have hfy : ys.filter (fun x => x != 0 - (0 - v)) = ys.filter (fun x => iab x != v) := by rw [show 0 - (0 - v) = v by omega, ty.filt c3, hv1]
        have hcl : Clash xs ys v := .inr ⟨c2', c3⟩
        k_steps
        rename Fr _ _ _ _ => F2
        rename News _ _ _ _ => N2
        refine IntsC.intro (fun x => x != 0 - v) (fun x => x) rfl F2 N2 (.inl hxg) ix (by omega) (fun n t C oC m₂ h tk hn no hm F3 N3 hne => ?_) ?_
        · clear F2 N2
          k_steps
          · exact ⟨by simpa using (by assumption : n ≠ 0 - v), ⟨_, rfl⟩, _, _, rfl, Keep.refl _ _⟩
          · exact ⟨by simpa using (by assumption : n = 0 - v), _, _, rfl, Keep.refl _ _⟩
        · intro D zs h' tk n F4 N4 l4 iz
          rw [List.map_id', hfx] at iz
          k_lt l4
          clear F2 N2
          k_steps
          rename Fr _ _ _ _ => F2
          rename News _ _ _ _ => N2
          refine IntsC.intro (fun x => x != 0 - (0 - v)) (fun x => x) rfl F2 N2 (.inl hyg) iy (by omega) (fun n t C oC m₂ h tk hn no hm F3 N3 hne => ?_) ?_
          · clear F2 N2
            k_steps
            · exact ⟨by simpa using (by assumption : n ≠ 0 - (0 - v)), ⟨_, rfl⟩, _, _, rfl, Keep.refl _ _⟩
            · exact ⟨by simpa using (by assumption : n = 0 - (0 - v)), _, _, rfl, Keep.refl _ _⟩
          · intro D2 zs2 h' tk n F4 N4 l5 iz2
            rw [List.map_id', hfy] at iz2
            k_lt l5
            clear F2 N2
            have z1 : zs.length < 1000 := by rw [iz.length]; exact Nat.lt_of_le_of_lt (List.length_filter_le ..) (by omega)
            have z2 : zs2.length < 1000 := by rw [iz2.length]; exact Nat.lt_of_le_of_lt (List.length_filter_le ..) (by omega)
            have ir : IntsAre (zs ++ zs2) (rest xs ys v) := ints_app iz2 iz
            k_steps
            rename Fr _ _ _ _ => F5
            rename News _ _ _ _ => N5
            replace N5 := news_list N5
            refine IntsC.intro (fun x => (rest xs ys v).any (· == 0 - x)) (fun x => x) rfl F5 N5 (.inr (.inr ⟨_, .head _⟩)) ir (Nat.lt_trans (rest_len xs ys v (by omega) (by omega)) (by decide)) (fun n t C oC m₂ h tk hn no hm F3 N3 hne => ?_) ?_
            · clear F5 N5
              k_steps
              · exact ⟨by assumption, ⟨_, rfl⟩, _, _, rfl, Keep.refl _ _⟩
              · exact ⟨by assumption, _, _, rfl, Keep.refl _ _⟩
            · intro D3 zs3 h' tk n F6 N6 l6 iz3
              rw [List.map_id'] at iz3
              k_lt l6
              clear F5 N5
              k_steps
              · rename Fr _ _ _ _ => F7
                rename News _ _ _ _ => N7
                have hcn : Clean (rest xs ys v) := clean_of (by assumption)
                refine call_set (items := (zs ++ zs2).toArray) rfl ⟨_, (N7 _ (.tail _ (.tail _ (.head _)))).1, rfl, _, rfl⟩ ir (rest_vals tx ty) (rest_max hv tx ty hcn) fun h' tk o ws hS hok hnd hmem hk => ?_
                have F8 := F7.kept fun b o e => hk b o (Heap.lt_size e) e
                have N8 : News g _ h' _ := N7.grown fun b o e => hk b o (Heap.lt_size e) e
                clear F7 N7
                k_steps
                (with_unfolding_all show wpAny _ _ (call (Value.builtin "sorted") [Value.ref _] [(Str.ofString "key", Value.builtin "abs")]) _ _ _)
                refine set_sorted F8 N8 rfl hS hok fun D4 h' tk out c zz F9 N9 l9 iz4 pz oz => ?_
                k_lt l9
                clear F8 N8
                k_steps
                rename Fr _ _ _ _ => F10
                rename News _ _ _ _ => N10
                have hmz : ∀ y, y ∈ zz ↔ y ∈ rest xs ys v := fun y => pz.mem_iff.trans (hmem y)
                have hst := abs_strict hcn hmz (pz.nodup_iff.mpr hnd) oz
                have hres := resP_some hcl hcn
                rw [← rest_canon tx ty hcn hmz hst] at hres
                have lo4 : out.length ≤ 4 := by rw [iz4.length, pz.length_eq]; obtain ⟨_, _, _, _, _, _, _, h4⟩ := hok.is; exact h4
                refine kde_tupleOf F10 N10 (N10.isList (.head _)) (by simp; omega) (List.toList_toArray ..) fun D' h3 F11 N11 l11 => ?_
                have q := (N11 _ (.head _)).2.2
                rw [hg] at q
                exact hretS zz hres _ _ D' (Keep.of_base hg F11.keep) ⟨out, iz4, _, (N11 _ (.head _)).1, rfl, 0, rfl⟩ q
              · rename Fr _ _ _ _ => F7
                exact hretN (resP_dirty hcl (dirty_of (by assumption))) _ _ (Keep.of_base hg F7.keep)
      · have hno : resP xs ys v = none := resP_noclash fun q => q.elim (fun q => c1 q.1) fun q => c3 q.2
        k_steps
        exact hretN hno _ _ (Keep.of_all hk₁)
    · have hno : resP xs ys v = none := resP_noclash fun q => q.elim (fun q => c1 q.1) fun q => c2 (by rw [Int.zero_sub]; exact q.1)
      k_steps
      exact hretN hno _ _ (Keep.of_all hk₁)
end
end SRsv
section SCompL

section
variable {prog : Program} {w : World} {A : Around} {E : Value → Shared → Prop} {s₂ : Shared} {env : Env} {g : Heap}
/-- an item is made, none is made -/
inductive LedJ (g : Heap) (L n : Nat) (m : Str → Option Value) (I : Addr) (J : List (Addr × Obj) → Prop) (h₄ : Heap) : Prop
  | mk (news₂ : List (Addr × Obj)) : Fr g L h₄ m → News g L h₄ news₂ → (∀ q ∈ news₂, q.1 < n ∧ q.1 ≠ I) → J news₂ → LedJ g L n m I J h₄
def LElt (g : Heap) (L : Addr) (s₂ : Shared) (m : Str → Option Value) (I : Addr) (Wr : List Addr) (h : Heap) (J : List Value → List (Addr × Obj) → Prop) (ys : List Value) (y : Value) (s₄ : Shared) : Prop :=
  CompK s₂ Wr h (LedJ g L s₂.heap.objs.size m I (J (ys ++ [y]))) s₄
def LNo (g : Heap) (L : Addr) (s₂ : Shared) (m : Str → Option Value) (I : Addr) (Wr : List Addr) (h : Heap) (J : List Value → List (Addr × Obj) → Prop) (ys : List Value) (s₄ : Shared) : Prop :=
  CompK s₂ Wr h (LedJ g L s₂.heap.objs.size m I (J ys)) s₄
/-- the tests of a comprehension -/
def testsOf (ifs : List Expr) (cenv : Env) : Sem Bool := forIn ifs true fun c r => if r = true then do let ok ← isTrue c cenv (eval c cenv); pure (ForInStep.yield ok) else pure (ForInStep.yield r)
/-- one turn of a comprehension, its ledger kept -/
def LTurn (prog : Program) (w : World) (A : Around) (env : Env) (scope : Scope) (cl : List (Str × Addr)) (x : Str) (ifs : List Expr) (elt : Expr) (g : Heap) (s₂ : Shared) (m : Str → Option Value) (I : Addr) (n : Nat) (P : Nat → Value → Prop) (Wr : List Addr) (J : Nat → List Value → List (Addr × Obj) → Prop) : Prop :=
  ∀ i v C oC ys news₁ h tk m₂, i < n → P i v → J i ys news₁ → LCg.NsObj oC m₂ → m₂ x = some v → Fr g env.locals h m → News g env.locals h ((C, oC) :: news₁) → (∀ q ∈ news₁, q.1 ≠ C) → (∀ q ∈ news₁, q.1 < s₂.heap.objs.size ∧ q.1 ≠ I) →
    (∀ b o, b ≠ I → b ∉ Wr → s₂.heap.get? b = some o → h.get? b = some o) → (∀ b ∈ Wr, b ≠ C) →
    wpAny (model prog w) A (testsOf ifs (compEnvC scope cl C env)) (fun ok s₃ => if ok = true then wpAny (model prog w) A (eval elt (compEnvC scope cl C env)) (LElt g env.locals s₂ m I Wr h (J (i + 1)) ys) (fun _ _ => False) s₃
      else LNo g env.locals s₂ m I Wr h (J (i + 1)) ys s₃) (fun _ _ => False) { s₂ with heap := h, toks := tk }
theorem no_tests {cenv : Env} {Q : Bool → Shared → Prop} {s : Shared} (h : Q true s) : wpAny (model prog w) A (testsOf [] cenv) Q E s := wpAny_pure h
theorem one_test {c : Expr} {cenv : Env} {Q : Bool → Shared → Prop} {s : Shared} (h : wpAny (model prog w) A (isTrue c cenv (eval c cenv)) Q E s) : wpAny (model prog w) A (testsOf [c] cenv) Q E s :=
  wpAny_bind (wpAny_bind (wpAny_mono h (fun b s' hq => wpAny_pure (wpAny_pure hq)) fun _ _ x => x))
theorem compAt_led {elt : Expr} {x : Str} {ifs : List Expr} {scope : Scope} {cl : List (Str × Addr)} {I : Addr} {fp : List Addr} {n : Nat} {P : Nat → Value → Prop} {St : Nat → Heap → Prop} {m : Str → Option Value} {news : List (Addr × Obj)} {Fin : List Addr → Addr → List Value → Heap → Nat → Prop}
    (W : Walks prog w A I fp [I] n P St) (hn : n ≤ sizeLine) (hst : St 0 s₂.heap) (hfp : ∀ b ∈ fp, b < s₂.heap.objs.size) (F : Fr g env.locals s₂.heap m) (N : News g env.locals s₂.heap news) (hIL : I ≠ env.locals) (hIg : g.get? I = none) (hI : ∀ p ∈ news, p.1 ≠ I)
    (Wr : List Addr) (hWr : ∀ b ∈ Wr, b < s₂.heap.objs.size ∧ b ∉ fp) (J : Nat → List Value → List (Addr × Obj) → Prop) (hJ : J 0 [] news)
    (turn : LTurn prog w A env scope cl x ifs elt g s₂ m I n P Wr J)
    (fin : ∀ D h' tk ys news₁ k, s₂.heap.objs.size ≤ D → J n ys news₁ → ys.length ≤ n → Fr g env.locals h' m → News g env.locals h' ((D, listOf (List.toArray ys) k) :: news₁) → (∀ q ∈ news₁, q.1 < s₂.heap.objs.size) → (∀ b o, b ≠ I → b ∉ Wr → s₂.heap.get? b = some o → h'.get? b = some o) → Fin ([I] ++ Wr) D ys h' tk) :
    CompAt prog w A env scope cl x ifs elt Fin (.ref I) s₂ := by
  have hLs := F.ns.lt
  have hgs : ∀ b o, g.get? b = some o → b < s₂.heap.objs.size ∧ b ≠ I := fun b o e => ⟨Heap.lt_size (F.keep _ _ e), fun q => by rw [q, hIg] at e; cases e⟩
  refine ⟨I, fp, [I], n, P, St, Wr, fun i ys h => LedJ g env.locals s₂.heap.objs.size m I (J i ys) h, rfl, W, hn, hst, hfp, hWr,
    ⟨news, F, N, fun q hq => ⟨Heap.lt_size (N q hq).1, hI q hq⟩, hJ⟩, ?_, ?_, ?_⟩
  · rintro i ys h h' ⟨news₁, F₁, N₁, b₁, j₁⟩ hk
    obtain ⟨oL, es, ep, eL, r⟩ := F₁.ns
    exact ⟨news₁, ⟨⟨oL, es, ep, hk _ _ hLs (fun q => hIL (List.mem_singleton.mp q).symm) eL, r⟩, fun b o e => hk b o (hgs b o e).1 (fun q => (hgs b o e).2 (List.mem_singleton.mp q)) (F₁.keep b o e), F₁.above⟩,
      fun q hq => ⟨hk _ _ (b₁ q hq).1 (fun z => (b₁ q hq).2 (List.mem_singleton.mp z)) (N₁ q hq).1, (N₁ q hq).2⟩, b₁, j₁⟩
  · rintro i v C ys h tk m₂ hC hi hP ⟨news₁, F₁, N₁, b₁, j₁⟩ hns hx hk
    obtain ⟨oC, e, no⟩ := LCg.ns_obj hns
    have hgC : g.get? C = none := by
      cases q : g.get? C with
      | none => rfl
      | some o => exact absurd (hgs _ _ q).1 (Nat.not_lt.mpr hC)
    have hCL : C ≠ env.locals := Nat.ne_of_gt (Nat.lt_of_lt_of_le hLs hC)
    refine turn i v C oC ys news₁ h tk m₂ hi hP j₁ no hx F₁ (fun q hq => ?_) (fun q hq => Nat.ne_of_lt (Nat.lt_of_lt_of_le (b₁ q hq).1 hC)) b₁ (fun b o n1 n2 q => hk b o (fun z => n1 (List.mem_singleton.mp z)) n2 q) (fun b hb => Nat.ne_of_lt (Nat.lt_of_lt_of_le (hWr b hb).1 hC))
    rcases List.mem_cons.mp hq with rfl | hq
    · exact ⟨e, hCL, hgC⟩
    · exact N₁ q hq
  · rintro D h' tk ys hD hDn ⟨k, hpl⟩ ⟨news₁, F₁, N₁, b₁, j₁⟩ hl hk
    refine fin D h' tk ys news₁ k hD j₁ hl F₁ (fun q hq => ?_) (fun q hq => (b₁ q hq).1) (fun b o n1 n2 q => hk b o (fun z => n1 (List.mem_singleton.mp z)) n2 q)
    rcases List.mem_cons.mp hq with rfl | hq
    · refine ⟨hpl, Nat.ne_of_gt (Nat.lt_of_lt_of_le hLs hD), ?_⟩
      cases q : g.get? D with
      | none => rfl
      | some o => exact absurd (hgs _ _ q).1 (Nat.not_lt.mpr hD)
    · exact N₁ q hq
/-- the list that a comprehension made, stored -/
def SetFin (prog : Program) (w : World) (A : Around) (E : Value → Shared → Prop) (env : Env) (y : Str) (py : Pos) (s₂ : Shared) (Q : Flow → Shared → Prop) (W : List Addr) (D : Addr) (ys : List Value) (h' : Heap) (tk : Nat) : Prop :=
  ∃ m, (∀ C m', s₂.heap.objs.size ≤ C → h'.Ns C m' → D ≠ C → wpAny (model prog w) A (assign (.Name y py) env (.ref D)) (fun _ s'' => ∃ m', s''.heap.Ns C m' ∧ ∀ h'', Heap.SameBut C s''.heap h'' → Q .next { s'' with heap := h'' }) E { s₂ with heap := h', toks := tk }) ∧ m = W ∧ ys = ys
theorem assign_compS {elt iter : Expr} {x y : Str} {px py : Pos} {ifs : List Expr} {scope : Scope} {cl : List (Str × Addr)} {pos spos : Pos} {s : Shared} {Q : Flow → Shared → Prop}
    (hsw : swapsWith (.ListComp elt [⟨.Name x px, iter, ifs, 0⟩] scope pos) (some (.Name y py)) spos.line env = pure true)
    (hclos : closureFor scope env = pure cl) (hcell : ∀ z ∈ scope.names, z.2 ≠ .cell) (hkind : scope.kind = .function)
    (hnames : ∀ z ∈ scope.names, z.2 = .local → scope.names.lookup z.1 = some .local) (hx : scope.names.lookup x = some .local)
    (h : wpAny (model prog w) A (eval iter env) (fun xv s₁ => wpAny (model prog w) A (pyIter xv) (fun it s₂ => CompAt prog w A env scope cl x ifs elt (SetFin prog w A E env y py s₂ Q) it s₂) E s₁) E s)
    (hs : ∀ x, foldedSetIterable iter env x = pure x := by intro _; rfl) :
    wpAny (model prog w) A (exec (.Assign [.Name y py] (.ListComp elt [⟨.Name x px, iter, ifs, 0⟩] scope pos) spos) env) Q E s := assign_comp hsw hclos hcell hkind hnames hx h hs
theorem set_fin {y : Str} {py : Pos} {Q : Flow → Shared → Prop} {Wr : List Addr} {D : Addr} {ys : List Value} {h' : Heap} {tk k : Nat} {m : Str → Option Value} {news₁ : List (Addr × Obj)} (hy : env.kindOf y = some .local)
    (hp : (env.scope.kind == .class || (env.scope.kind == .module && env.locals != env.globals)) = false) (hgb : ∀ b o, g.get? b = some o → b < s₂.heap.objs.size) (hLs : env.locals < s₂.heap.objs.size) (hD : s₂.heap.objs.size ≤ D) (F : Fr g env.locals h' m) (N : News g env.locals h' ((D, listOf (List.toArray ys) k) :: news₁)) (hb : ∀ q ∈ news₁, q.1 < s₂.heap.objs.size)
    (h : ∀ h'' tk, Fr g env.locals h'' (fun z => if z = y then some (.ref D) else m z) → News g env.locals h'' ((D, listOf (List.toArray ys) k) :: news₁) → Q .next { s₂ with heap := h'', toks := tk }) :
    SetFin prog w A E env y py s₂ Q Wr D ys h' tk := by
  refine ⟨_, fun C m' hC hn hDC => ?_, rfl, rfl⟩
  have hCL : env.locals ≠ C := Nat.ne_of_lt (Nat.lt_of_lt_of_le hLs hC)
  have hCg : g.get? C = none := by
    cases q : g.get? C with
    | none => rfl
    | some o => exact absurd (hgb _ _ q) (Nat.not_lt.mpr hC)
  have hL0 : g.get? env.locals = none := Heap.get?_none_of_le F.above
  refine wpAny_assign_Name (wpAny_storeName_local hy F.ns (fun h₂ hn₂ hs₂ => ?_) (by assumption))
  have F₂ : Fr g env.locals h₂ (fun z => if z = y then some (.ref D) else m z) := ⟨hn₂, fun b o e => hs₂.extBut b o (fun q => by rw [q, hL0] at e; cases e) (F.keep b o e), F.above⟩
  refine ⟨m', hn.sameBut hs₂ hCL.symm, fun h'' hs'' => ?_⟩
  have hDC' : ∀ q ∈ (D, listOf (List.toArray ys) k) :: news₁, q.1 ≠ C := fun q hq => by
    rcases List.mem_cons.mp hq with rfl | hq
    · exact hDC
    · exact Nat.ne_of_lt (Nat.lt_of_lt_of_le (hb q hq) hC)
  exact h h'' _ (F₂.change hs'' hCL.symm hCg) fun q hq => ⟨hs''.extBut _ _ (hDC' q hq) (hs₂.extBut _ _ (N q hq).2.1 (N q hq).1), (N q hq).2⟩
theorem rsize_n (n : Nat) : Builtin.Range.rangeSize 0 (n : Int) 1 = (n : Int) := by
  unfold Builtin.Range.rangeSize
  split <;> simp_all <;> omega
theorem rsmall_n {n : Nat} (hsz : n < 1000) : Builtin.Range.small 0 (n : Int) 1 = true := by
  unfold Builtin.Range.small Builtin.Range.rangeFitsLong
  simp only [rsize_n]
  simp
  omega
/-- over a range -/
theorem comp_range {elt : Expr} {x : Str} {ifs : List Expr} {scope : Scope} {cl : List (Str × Addr)} {r : Addr} {n : Nat} {t u v : Tok} {m : Str → Option Value} {news : List (Addr × Obj)} {s : Shared} {Fin : Shared → List Addr → Addr → List Value → Heap → Nat → Prop}
    (hh : A.handled = none) (hr : IsRange s.heap r 0 (n : Int) 1 t u v) (hsz : n < 1000) (F : Fr g env.locals s.heap m) (N : News g env.locals s.heap news)
    (Wr : List Addr) (hWr : ∀ b ∈ Wr, b < s.heap.objs.size) (J : Nat → List Value → List (Addr × Obj) → Prop) (hJ : J 0 [] news)
    (turn : ∀ s₂ I, s₂ = { s with heap := s₂.heap } → (∀ b o, s.heap.get? b = some o → s₂.heap.get? b = some o) → LTurn prog w A env scope cl x ifs elt g s₂ m I n (fun i v => ∃ t, v = .int (i : Int) t) Wr J)
    (fin : ∀ s₂ I D h' tk ys news₁ k, s₂ = { s with heap := s₂.heap } → (∀ b o, g.get? b = some o → b < s₂.heap.objs.size) → env.locals < s₂.heap.objs.size → s₂.heap.objs.size ≤ D → J n ys news₁ → ys.length ≤ n → Fr g env.locals h' m → News g env.locals h' ((D, listOf (List.toArray ys) k) :: news₁) → (∀ q ∈ news₁, q.1 < s₂.heap.objs.size) → Fin s₂ ([I] ++ Wr) D ys h' tk) :
    wpAny (model prog w) A (pyIter (.ref r)) (fun it s₂ => CompAt prog w A env scope cl x ifs elt (Fin s₂) it s₂) E s := by
  have hz := rsize_n n
  have hs := rsmall_n hsz
  refine wpAny_pyIter_range hr hs ?_
  have W := (Walks.range (prog := prog) (w := w) hh s.heap.objs.size 0 1 n)
  have hIg : g.get? s.heap.objs.size = none := by
    cases q : g.get? s.heap.objs.size with
    | none => rfl
    | some o => exact absurd (Heap.lt_size (F.keep _ _ q)) (Nat.lt_irrefl _)
  have up : ∀ o : Obj, ∀ b, b < s.heap.objs.size → b < (s.heap.push o).objs.size := fun o b h => by rw [Heap.size_push]; exact Nat.lt_succ_of_lt h
  refine compAt_led W (by rw [sizeLine_eq]; omega) ?_ (fun b hb => ?_) (F.push _) (fun p hp => ⟨Heap.get?_push_of_some _ (N p hp).1, (N p hp).2⟩) (Nat.ne_of_gt F.ns.lt) hIg (fun p hp => Nat.ne_of_lt (Heap.lt_size (N p hp).1)) Wr (fun b hb => ⟨up _ b (hWr b hb), fun z => by rw [List.mem_singleton.mp z] at hb; exact absurd (hWr _ hb) (Nat.lt_irrefl _)⟩) J hJ ?_ ?_
  · show IsRangeIter _ _ _ _ _
    rw [hz]
    simpa using Heap.get?_push_size _ rfl
  · rw [List.mem_singleton.mp hb, Heap.size_push]; exact Nat.lt_succ_self _
  · rintro i v C oC ys news₁ h tk m₂ hi ⟨ti, rfl⟩
    have e : (0 + (i : Int) * 1) = (i : Int) := by omega
    rw [e]
    exact turn _ s.heap.objs.size rfl (fun b o q => Heap.get?_push_of_some _ q) i _ C oC ys news₁ h tk m₂ hi ⟨ti, rfl⟩
  · intro D h' tk ys news₁ k hD j l F' N' b _
    exact fin _ s.heap.objs.size D h' tk ys news₁ k rfl (fun b o q => up _ b (Heap.lt_size (F.keep _ _ q))) (up _ _ F.ns.lt) hD j l F' N' b
/-- over a list of the ledger -/
theorem comp_list {elt : Expr} {x : Str} {ifs : List Expr} {scope : Scope} {cl : List (Str × Addr)} {a : Addr} {vs : List Value} {k0 : Nat} {m : Str → Option Value} {news : List (Addr × Obj)} {s : Shared} {Fin : Shared → List Addr → Addr → List Value → Heap → Nat → Prop}
    (hh : A.handled = none) (ha : (a, listOf vs.toArray k0) ∈ news) (hsz : vs.length < 1000) (F : Fr g env.locals s.heap m) (N : News g env.locals s.heap news)
    (Wr : List Addr) (hWr : ∀ b ∈ Wr, b < s.heap.objs.size ∧ b ≠ a) (J : Nat → List Value → List (Addr × Obj) → Prop) (hJ : J 0 [] news)
    (turn : ∀ s₂ I, s₂ = { s with heap := s₂.heap } → (∀ b o, s.heap.get? b = some o → s₂.heap.get? b = some o) → LTurn prog w A env scope cl x ifs elt g s₂ m I vs.length (fun i v => vs[i]? = some v) Wr J)
    (fin : ∀ s₂ I D h' tk ys news₁ k, s₂ = { s with heap := s₂.heap } → (∀ b o, g.get? b = some o → b < s₂.heap.objs.size) → env.locals < s₂.heap.objs.size → s₂.heap.objs.size ≤ D → J vs.length ys news₁ → ys.length ≤ vs.length → Fr g env.locals h' m → News g env.locals h' ((D, listOf (List.toArray ys) k) :: news₁) → (∀ q ∈ news₁, q.1 < s₂.heap.objs.size) → Fin s₂ ([I] ++ Wr) D ys h' tk) :
    wpAny (model prog w) A (pyIter (.ref a)) (fun it s₂ => CompAt prog w A env scope cl x ifs elt (Fin s₂) it s₂) E s := by
  have hl := N.isList ha
  have hlt : a < s.heap.objs.size := Heap.lt_size (N _ ha).1
  refine wpAny_pyIter_list hl ?_
  have W : Walks prog w A s.heap.objs.size _ _ vs.length _ _ := Walks.list (prog := prog) (w := w) hh s.heap.objs.size a (Nat.ne_of_lt hlt) vs.toArray
  have hIg : g.get? s.heap.objs.size = none := by
    cases q : g.get? s.heap.objs.size with
    | none => rfl
    | some o => exact absurd (Heap.lt_size (F.keep _ _ q)) (Nat.lt_irrefl _)
  have up : ∀ o : Obj, ∀ b, b < s.heap.objs.size → b < (s.heap.push o).objs.size := fun o b h => by rw [Heap.size_push]; exact Nat.lt_succ_of_lt h
  refine compAt_led W (by rw [sizeLine_eq]; omega) ⟨⟨_, Heap.get?_push_size _ rfl, rfl, rfl⟩, hl.at fun o e => Heap.get?_push_of_some _ e⟩ (fun b hb => ?_) (F.push _) (fun p hp => ⟨Heap.get?_push_of_some _ (N p hp).1, (N p hp).2⟩) (Nat.ne_of_gt F.ns.lt) hIg (fun p hp => Nat.ne_of_lt (Heap.lt_size (N p hp).1)) Wr (fun b hb => ⟨up _ b (hWr b hb).1, fun z => ?_⟩) J hJ ?_ ?_
  · rcases List.mem_cons.mp hb with rfl | hb
    · rw [Heap.size_push]; exact Nat.lt_succ_self _
    · rw [List.mem_singleton.mp hb]; exact up _ _ hlt
  · rcases List.mem_cons.mp z with q | z
    · rw [q] at hb; exact absurd (hWr _ hb).1 (Nat.lt_irrefl _)
    · exact (hWr _ hb).2 (List.mem_singleton.mp z)
  · rintro i v C oC ys news₁ h tk m₂ hi hP
    exact turn _ s.heap.objs.size rfl (fun b o q => Heap.get?_push_of_some _ q) i _ C oC ys news₁ h tk m₂ hi (by simpa using hP)
  · intro D h' tk ys news₁ k hD j l F' N' b _
    exact fin _ s.heap.objs.size D h' tk ys news₁ k rfl (fun b o q => up _ b (Heap.lt_size (F.keep _ _ q))) (up _ _ F.ns.lt) hD j l F' N' b
/-- over a tuple -/
theorem comp_tuple {elt : Expr} {x : Str} {ifs : List Expr} {scope : Scope} {cl : List (Str × Addr)} {a : Addr} {vs : List Value} {m : Str → Option Value} {news : List (Addr × Obj)} {s : Shared} {Fin : Shared → List Addr → Addr → List Value → Heap → Nat → Prop}
    (hh : A.handled = none) (ha : IsTup s.heap a vs.toArray) (hsz : vs.length < 1000) (F : Fr g env.locals s.heap m) (N : News g env.locals s.heap news)
    (Wr : List Addr) (hWr : ∀ b ∈ Wr, b < s.heap.objs.size ∧ b ≠ a) (J : Nat → List Value → List (Addr × Obj) → Prop) (hJ : J 0 [] news)
    (turn : ∀ s₂ I, s₂ = { s with heap := s₂.heap } → (∀ b o, s.heap.get? b = some o → s₂.heap.get? b = some o) → LTurn prog w A env scope cl x ifs elt g s₂ m I vs.length (fun i v => vs[i]? = some v) Wr J)
    (fin : ∀ s₂ I D h' tk ys news₁ k, s₂ = { s with heap := s₂.heap } → (∀ b o, g.get? b = some o → b < s₂.heap.objs.size) → env.locals < s₂.heap.objs.size → s₂.heap.objs.size ≤ D → J vs.length ys news₁ → ys.length ≤ vs.length → Fr g env.locals h' m → News g env.locals h' ((D, listOf (List.toArray ys) k) :: news₁) → (∀ q ∈ news₁, q.1 < s₂.heap.objs.size) → Fin s₂ ([I] ++ Wr) D ys h' tk) :
    wpAny (model prog w) A (pyIter (.ref a)) (fun it s₂ => CompAt prog w A env scope cl x ifs elt (Fin s₂) it s₂) E s := by
  have hlt : a < s.heap.objs.size := by obtain ⟨_, e, _⟩ := ha; exact Heap.lt_size e
  refine wpAny_pyIter_tuple ha ?_
  have W : Walks prog w A s.heap.objs.size _ _ vs.length _ _ := Walks.tuple (prog := prog) (w := w) hh s.heap.objs.size a (Nat.ne_of_lt hlt) vs.toArray
  have hIg : g.get? s.heap.objs.size = none := by
    cases q : g.get? s.heap.objs.size with
    | none => rfl
    | some o => exact absurd (Heap.lt_size (F.keep _ _ q)) (Nat.lt_irrefl _)
  have up : ∀ o : Obj, ∀ b, b < s.heap.objs.size → b < (s.heap.push o).objs.size := fun o b h => by rw [Heap.size_push]; exact Nat.lt_succ_of_lt h
  refine compAt_led W (by rw [sizeLine_eq]; omega) ⟨⟨_, Heap.get?_push_size _ rfl, rfl, rfl⟩, (show s.heap.IsTuple a vs.toArray from ha).at fun o e => Heap.get?_push_of_some _ e⟩ (fun b hb => ?_) (F.push _) (fun p hp => ⟨Heap.get?_push_of_some _ (N p hp).1, (N p hp).2⟩) (Nat.ne_of_gt F.ns.lt) hIg (fun p hp => Nat.ne_of_lt (Heap.lt_size (N p hp).1)) Wr (fun b hb => ⟨up _ b (hWr b hb).1, fun z => ?_⟩) J hJ ?_ ?_
  · rcases List.mem_cons.mp hb with rfl | hb
    · rw [Heap.size_push]; exact Nat.lt_succ_self _
    · rw [List.mem_singleton.mp hb]; exact up _ _ hlt
  · rcases List.mem_cons.mp z with q | z
    · rw [q] at hb; exact absurd (hWr _ hb).1 (Nat.lt_irrefl _)
    · exact (hWr _ hb).2 (List.mem_singleton.mp z)
  · rintro i v C oC ys news₁ h tk m₂ hi hP
    exact turn _ s.heap.objs.size rfl (fun b o q => Heap.get?_push_of_some _ q) i _ C oC ys news₁ h tk m₂ hi (by simpa using hP)
  · intro D h' tk ys news₁ k hD j l F' N' b _
    exact fin _ s.heap.objs.size D h' tk ys news₁ k rfl (fun b o q => up _ b (Heap.lt_size (F.keep _ _ q))) (up _ _ F.ns.lt) hD j l F' N' b
end
end SCompL
theorem word31 : True := by
  k_with_none
  k_with "call builtin:len" => (k_here; (with_reducible show wpAny _ _ (call (Value.builtin "len") [Value.ref _]) _ _ _); (with_unfolding_all refine' len_tupI ?k1 ?k2 ?k3 ?_; (case k1 => first | assumption | exact Fr.tup (by assumption) (by assumption)); (case k2 => l_ints); (case k3 => l_fit); k_whole))
  k_with "call builtin:len" => (k_here; (with_reducible show wpAny _ _ (call (Value.builtin "len") [Value.ref _]) _ _ _); (with_unfolding_all refine' len_lst ?k1 ?k3 ?_; (case k1 => exact News.isList (by k_asm) (by k_mem)); (case k3 => (simp only [List.length_map]; omega)); k_whole))
  k_with "subscriptTail" => (k_here; (with_reducible show wpAny _ _ (subscriptTail _ _ (Value.ref _) (Value.int _ _)) _ _ _); (with_unfolding_all refine' item_tuple_ints ?k1 ?k2 ?k3 ?k4 ?k5 ?_ ?k6 ?k7; (case k1 => first | assumption | exact Fr.tup (by assumption) (by assumption)); (case k2 => l_ints); (case k3 => omega); (case k4 => omega); (case k5 => omega); (case k6 => with_unfolding_all rfl); (case k7 => (intro _; with_unfolding_all rfl)); k_whole); intro _)
  k_with "subscriptTail" => (k_here; (with_reducible show wpAny _ _ (subscriptTail _ _ (Value.ref _) (Value.int _ _)) _ _ _); (with_unfolding_all refine' item_listR ?k1 ?k2 ?k3 ?k4 ?_ ?k6; (case k4 => assumption); (case k1 => exact News.isList (by k_asm) (by k_mem)); (case k2 => omega); (case k3 => omega); (case k6 => with_unfolding_all rfl); k_whole))
  k_with "exec For Name Name cons nil" => (k_here; (rename Fr _ _ _ _ => lF'); (with_unfolding_all refine' for_walksF lF' ?k1 ?k2 ?_; (case k1 => exact rfl); (case k2 => exact rfl); k_whole))
  k_with "exec For Name Call cons nil" => (k_here; (rename Fr _ _ _ _ => lF'); (with_unfolding_all refine' for_walksF lF' ?k1 ?k2 ?_; (case k1 => exact rfl); (case k2 => exact rfl); k_whole))
  trivial
section SLCl

theorem SeqInts.hide {g h : Heap} {W : List Addr} {a : Addr} {xs : List Int} (hg : g = hideAll h W) (x : SeqInts h a xs) (n : a ∉ W) : SeqInts g a xs := by
  obtain ⟨vs, i, ⟨o, ho, r⟩ | ⟨o, ho, r⟩⟩ := x
  · exact ⟨vs, i, .inl ⟨o, hide1 hg ho n, r⟩⟩
  · exact ⟨vs, i, .inr ⟨o, hide1 hg ho n, r⟩⟩
theorem SeqInts.fr {g h : Heap} {L a : Addr} {m : Str → Option Value} {xs : List Int} (F : Fr g L h m) (x : SeqInts g a xs) : SeqInts h a xs := by
  obtain ⟨vs, i, ⟨o, ho, r⟩ | ⟨o, ho, r⟩⟩ := x
  · exact ⟨vs, i, .inl ⟨o, F.keep _ _ ho, r⟩⟩
  · exact ⟨vs, i, .inr ⟨o, F.keep _ _ ho, r⟩⟩
theorem pipe_rng {xs : List Int} {i many : Int} (hm : 0 < many) : 0 ≤ pipeV xs i many ∧ pipeV xs i many < many := ⟨Int.fmod_nonneg_of_pos _ hm, Int.fmod_lt_of_pos _ hm⟩
theorem news_last {g h : Heap} {L c : Addr} {oc : Obj} {news : List (Addr × Obj)} (N : News g L h news) (e : h.get? c = some oc) (hl : c ≠ L) (hg : g.get? c = none) : News g L h (news ++ [(c, oc)]) := fun p m => by
  rcases List.mem_append.mp m with m | m
  · exact N p m
  · rw [List.mem_singleton.mp m]; exact ⟨e, hl, hg⟩
theorem news_cup {g h h' : Heap} {L c : Addr} {oc oc' : Obj} {pre post : List (Addr × Obj)} (N : News g L h (pre ++ (c, oc) :: post)) (k : Keep [c] h h') (e : h'.get? c = some oc') (hp : ∀ p ∈ pre, p.1 ≠ c) (hq : ∀ p ∈ post, p.1 ≠ c) : News g L h' (pre ++ (c, oc') :: post) := fun p m => by
  rcases List.mem_append.mp m with m | m
  · have := N p (List.mem_append_left _ m)
    exact ⟨k _ _ (fun q => hp p m (List.mem_singleton.mp q)) this.1, this.2⟩
  · rcases List.mem_cons.mp m with rfl | m
    · exact ⟨e, (N (c, oc) (List.mem_append_right _ (.head _))).2⟩
    · have := N p (List.mem_append_right _ (.tail _ m))
      exact ⟨k _ _ (fun q => hq p m (List.mem_singleton.mp q)) this.1, this.2⟩
theorem lit_tid {p5 : Int} {n : Nat} {zs ws : List Int} (r5 : 0 ≤ p5 ∧ p5 < 5) (hn : n ≤ 3) (ez : zs.map iab = (List.range n).map (fun j : Nat => 1 + (p5 + (j : Int)).fmod 5)) (pw : ws.Perm zs) (ow : ws.Pairwise (fun x y => (if x < 0 then -x else x) ≤ if y < 0 then -y else y)) : Tid ws := by
  have hnd : (zs.map iab).Nodup := by
    rw [ez]
    have h5 : p5 = 0 ∨ p5 = 1 ∨ p5 = 2 ∨ p5 = 3 ∨ p5 = 4 := by omega
    have hn' : n = 0 ∨ n = 1 ∨ n = 2 ∨ n = 3 := by omega
    rcases h5 with rfl | rfl | rfl | rfl | rfl <;> rcases hn' with rfl | rfl | rfl | rfl <;> decide
  have hrg : ∀ x ∈ zs, 1 ≤ iab x ∧ iab x ≤ 5 := fun x hx => by
    have : iab x ∈ zs.map iab := List.mem_map.mpr ⟨x, hx, rfl⟩
    rw [ez] at this
    obtain ⟨j, _, e⟩ := List.mem_map.mp this
    have h1 : 0 ≤ (p5 + (j : Int)).fmod 5 := Int.fmod_nonneg_of_pos _ (by decide)
    have h2 : (p5 + (j : Int)).fmod 5 < 5 := Int.fmod_lt_of_pos _ (by decide)
    omega
  refine ⟨fun x hx => hrg x (pw.mem_iff.mp hx), ?_⟩
  have h1 : (ws.map iab).Nodup := (pw.map iab).nodup_iff.mpr hnd
  have h2 : (ws.map iab).Pairwise (· ≤ ·) := List.pairwise_map.mpr ow
  exact (List.Pairwise.and h1 h2).imp fun ⟨a, b⟩ => by omega
theorem word32 : True := by
  k_with "exec Assign cons ListComp" => (k_here; k_dflt (refine' assign_compS ?k0 ?k1 ?k2 ?k3 ?k4 ?k5 ?_; (case k0 => with_unfolding_all rfl); (case k1 => with_unfolding_all rfl); (case k2 => decide); (case k3 => rfl); (case k4 => decide); (case k5 => rfl); k_whole))
  trivial
theorem ll_0 {i : Int} (h : i < 900000) : i < 1000000 := by omega
theorem ll_1 {i : Int} (h : 0 ≤ i) : 0 ≤ i + 1 := by omega
theorem ll_2 {i : Int} (h : i < 900000) : i + 1 < 1000000 := by omega
theorem ll_3 {p : Int} (r : 0 ≤ p ∧ p < 3) : 0 ≤ 1 + p := by omega
theorem ll_4 {p : Int} (r : 0 ≤ p ∧ p < 3) : (1 + p).toNat ≤ 3 := by omega
theorem ll_5 {i : Int} : i + 2 + ((0 : Nat) : Int) = i + 1 + 1 := by omega
theorem ll_6 {p : Int} {k : Nat} (r : 0 ≤ p ∧ p < 3) (h : k < (1 + p).toNat) : (k : Int) < 1 + p := by omega
theorem ll_7 {i : Int} {k : Nat} (h : 0 ≤ i) : 0 ≤ i + 2 + (k : Int) := by omega
theorem ll_8 {i p : Int} {k : Nat} (h : i < 900000) (r : 0 ≤ p ∧ p < 3) (q : (k : Int) < 1 + p) : i + 2 + (k : Int) < 1000000 := by omega
theorem ll_9 {i : Int} {k : Nat} : i + 2 + ((k + 1 : Nat) : Int) = i + 2 + (k : Int) + 1 := by omega
theorem ll_a {p : Int} (r : 0 ≤ p ∧ p < 2) : p = 0 ∨ p = 1 := by omega
theorem ll_b {i p : Int} (r : 0 ≤ p ∧ p < 3) : i ≤ i + 2 + ((1 + p).toNat : Int) := by omega
theorem ll_c {i p : Int} (r : 0 ≤ p ∧ p < 3) : i + 2 + ((1 + p).toNat : Int) ≤ i + 10 := by omega
section
variable {w : World} {mean : ExcName → Option Value} {mg mb : Str → Option Value} {B : Heap} {s : Shared} {Q E : Value → Shared → Prop} {c cells : Addr} {i : Int} {xs : List Int}
theorem lclause_c (X : (Mine.hd.heap_39 w.params).In B) (T : Tp mean mg mb B) (hB : B.StaysIn s.heap) (hc : CupAt w s.heap c cells i) (hs : SeqInts s.heap cells xs) (hne : cells ≠ c) (hcB : B.get? c = none) (h0 : 0 ≤ i) (h1 : i < 900000) (hxs : xs.length ≤ 60)
    (hret : ∀ h' tk D zs i', Keep [c] s.heap h' → CupAt w h' c cells i' → i ≤ i' → i' ≤ i + 10 → TupInts h' D zs → s.heap.get? D = none → Tid zs → Q (.ref D) { s with heap := h', toks := tk }) :
    wpAny (model PySem.Challenge.rw_rg0222_01.row.prog w) (lo 690 4900) (call (.ref 720) [.ref c]) Q E s := by
  obtain ⟨oc, tc, hoc, hdc⟩ := hc
  refine wpAny_call ?_
  k_dflt (refine' enterC (binds := [(Str.ofString "cup", .ref c)]) [c] X T.nolimit hB (by simpa using hcB) ?k6 ?k7 ?k8 ?k9 ?kB ?kC ?_ ?c2 ?c3 ?c4; (case k6 => k_is); (case k7 => k_is); (case k8 => decide); (case k9 => exact BindsTo.of_eq rfl); (case kB => exact rfl); (case kC => decide); (case c2 => exact rfl); (case c3 => exact rfl); (case c4 => exact rfl))
  intro g L h₁ tk₁ cells' hg hL F N Y hk₁ sg Xg
  have Tg := T.keeps sg
  have hsg := hs.hide hg (by simpa using hne)
  have hgc : g.get? c = none := hg ▸ hideAll_none _ (.head _)
  have hcL : c ≠ L := hL ▸ Nat.ne_of_lt (Heap.lt_size hoc)
  k_cells Y
  rename_i o1 o2 dd1 dd2
  have hcl : c < L := hL ▸ Heap.lt_size hoc
  have hclN := ltN hcl
  have N1 := news_last N (hk₁ _ _ hoc) hcL hgc
  clear N
  refine wpAny_mono (E := fun _ _ => False) ?_ (fun _ _ h => h) (fun _ _ h => h.elim)
  k_fold
  have hne1 : ∀ p ∈ [((L + 1 + 1 : Addr), o1), (L + 1, o2)], p.1 ≠ c := fun p hp => by
    simp only [List.mem_cons, List.not_mem_nil, or_false] at hp
    rcases hp with rfl | rfl
    · exact Nat.ne_of_gt (Nat.lt_succ_of_lt (Nat.lt_succ_of_lt hcl))
    · exact Nat.ne_of_gt (Nat.lt_succ_of_lt hcl)
  k_steps
  rename Fr _ _ _ _ => F2
  rename News _ _ _ _ => N2
  refine use_lo (pipe_c Xg Tg (by exact F2.keep) ⟨oc, tc, (N2 _ (.tail _ (.tail _ (.head _)))).1, hdc⟩ (hsg.fr F2) hne hgc h0 (ll_0 h1) (by decide) (by decide) hxs fun h3 tk3 t3 k3 hc3 => ?_) rfl (Nat.le_of_ble_eq_true rfl) (Nat.le_of_ble_eq_true rfl)
  obtain ⟨oc3, tc3, hoc3, hdc3⟩ := hc3
  have F3 := fr_call F2 k3 (fun m => hcL (List.mem_singleton.mp m).symm) (fun a m => (List.mem_singleton.mp m) ▸ hgc)
  have N3 := news_cup (pre := [_, _]) (post := []) N2 k3 hoc3 hne1 (fun _ m => nomatch m)
  clear F2 N2
  have r3 := pipe_rng (xs := xs) (i := i) (many := 3) (by decide)
  k_steps
  rename Fr _ _ _ _ => F4
  rename News _ _ _ _ => N4
  refine use_lo (pipe_c Xg Tg (by exact F4.keep) ⟨oc3, tc3, (N4 _ (.tail _ (.tail _ (.head _)))).1, hdc3⟩ (hsg.fr F4) hne hgc (ll_1 h0) (ll_2 h1) (by decide) (by decide) hxs fun h5 tk5 t5 k5 hc5 => ?_) rfl (Nat.le_of_ble_eq_true rfl) (Nat.le_of_ble_eq_true rfl)
  obtain ⟨oc5, tc5, hoc5, hdc5⟩ := hc5
  have F5 := fr_call F4 k5 (fun m => hcL (List.mem_singleton.mp m).symm) (fun a m => (List.mem_singleton.mp m) ▸ hgc)
  have N5 := news_cup (pre := [_, _]) (post := []) N4 k5 hoc5 hne1 (fun _ m => nomatch m)
  clear F4 N4
  have r5 := pipe_rng (xs := xs) (i := i + 1) (many := 5) (by decide)
  generalize pipeV xs i 3 = p3 at r3 F5 N5 ⊢
  generalize pipeV xs (i + 1) 5 = p5 at r5 F5 N5 ⊢
  dsimp only [List.cons_append, List.nil_append] at N5
  k_steps
  rename Fr _ _ _ _ => F6
  rename News _ _ _ _ => N6
  rename IsRange _ _ _ _ _ _ _ _ => hr6
  have en : ((1 + p3).toNat : Int) = 1 + p3 := Int.toNat_of_nonneg (ll_3 r3)
  rw [← en] at hr6
  refine comp_range (n := (1 + p3).toNat) rfl hr6 (Nat.lt_of_le_of_lt (ll_4 r3) (by decide)) F6 N6 [c] (fun b hb => (List.mem_singleton.mp hb) ▸ Heap.lt_size (N6 _ (.tail _ (.tail _ (.tail _ (.head _))))).1)
    (fun k ys news₁ => ∃ zs oc' tcc, IntsAre ys zs ∧ zs.map iab = (List.range k).map (fun j : Nat => 1 + (p5 + (j : Int)).fmod 5) ∧ oc'.IsDictOf (strKind PySem.Challenge.rw_rg0222_01.row.prog w) [(Str.ofString "cells", .ref cells), (Str.ofString "at", .int (i + 2 + (k : Int)) tcc)] ∧ news₁ = [_, _, _, (c, oc')])
    ⟨[], _, tc5, .nil, rfl, by rw [ll_5]; exact hdc5, rfl⟩ ?_ ?_
  · rintro s₂ I es₂ up2 k v C oC ys news₁ h tk m₂ hk ⟨tk', rfl⟩ ⟨zs, oc', tcc, iz, ez, hd', rfl⟩ no hx F7 N7 hC hb hk2 hWC
    refine no_tests ?_
    rw [if_pos rfl]
    clear F6 N6
    k_steps
    have hk3 : (k : Int) < 1 + p3 := ll_6 r3 hk
    refine use_lo (pipe_c Xg Tg (by exact F7.keep) ⟨oc', tcc, (N7 _ (.tail _ (.tail _ (.tail _ (.tail _ (.head _)))))).1, hd'⟩ (hsg.fr F7) hne hgc (ll_7 h0) (ll_8 h1 r3 hk3) (by decide) (by decide) hxs fun h9 tk9 t9 k9 hc9 => ?_) rfl (Nat.le_of_ble_eq_true rfl) (Nat.le_of_ble_eq_true rfl)
    obtain ⟨oc9, tc9, hoc9, hdc9⟩ := hc9
    have F9 := fr_call F7 k9 (fun m => hcL (List.mem_singleton.mp m).symm) (fun a m => (List.mem_singleton.mp m) ▸ hgc)
    have N8 : News g _ h [_, _, _, (c, oc')] := fun q hq => N7 q (.tail _ hq)
    have N9 := news_cup (pre := [_, _, _]) (post := []) N8 k9 hoc9 (fun q hq => ?_) (fun _ m => nomatch m)
    rotate_left
    · simp only [List.mem_cons, List.not_mem_nil, or_false] at hq
      rcases hq with rfl | rfl | rfl
      · exact Nat.ne_of_gt (by assumption : L + 1 + 1 < _ ∧ L + 1 < _ ∧ c < _).2.2
      · exact Nat.ne_of_gt (Nat.lt_succ_of_lt (Nat.lt_succ_of_lt hcl))
      · exact Nat.ne_of_gt (Nat.lt_succ_of_lt hcl)
    have r9 := pipe_rng (xs := xs) (i := i + 2 + (k : Int)) (many := 2) (by decide)
    generalize pipeV xs (i + 2 + (k : Int)) 2 = p9 at r9 ⊢
    k_steps
    refine ⟨h9, _, by rw [es₂], k9, _, F9, N9, fun q hq => ?_, zs ++ [_], oc9, tc9, ksk_snoc iz, ?_, ?_, rfl⟩
    · simp only [List.cons_append, List.nil_append, List.mem_cons, List.not_mem_nil, or_false] at hq
      rcases hq with rfl | rfl | rfl | rfl
      · exact hb _ (.head _)
      · exact hb _ (.tail _ (.head _))
      · exact hb _ (.tail _ (.tail _ (.head _)))
      · exact hb (c, oc') (.tail _ (.tail _ (.tail _ (.head _))))
    · rw [List.map_append, ez, List.range_succ, List.map_append]
      have h5 : 0 ≤ (p5 + (k : Int)).fmod 5 := Int.fmod_nonneg_of_pos _ (by decide)
      have hz : iab ((1 + (p5 + (k : Int)).fmod 5) * (1 - 2 * p9)) = 1 + (p5 + (k : Int)).fmod 5 := by
        generalize (p5 + (k : Int)).fmod 5 = y at h5 ⊢
        have : p9 = 0 ∨ p9 = 1 := ll_a r9
        unfold iab
        rcases this with rfl | rfl
        · split <;> omega
        · split <;> omega
      show _ ++ [iab _] = _ ++ [_]
      rw [hz]
    · rw [ll_9]; exact hdc9
  · intro s₂ I D h' tk ys news₁ k es₂ hgb hLs hD ⟨zs, oc', tcc, iz, ez, hd', e⟩ hl F7 N7 hb
    subst e
    refine set_fin (y := Str.ofString "some") rfl rfl hgb hLs hD F7 N7 hb fun h8 tk8 F8 N8 => ?_
    rw [es₂]
    clear F6 N6 F7 N7
    k_steps
    rename Fr _ _ _ _ => F9
    rename News _ _ _ _ => N9
    rename IntsAre _ _ => iw
    rename List.Perm _ _ => pw
    rename List.Pairwise _ _ => ow
    have lz : zs.length = (1 + p3).toNat := by have := congrArg List.length ez; rw [List.length_map, List.length_map, List.length_range] at this; exact this
    refine kde_tupleOf F9 N9 (N9.isList (.head _)) (by simp; rw [iw.length, pw.length_eq, lz]; exact Nat.le_trans (ll_4 r3) (by decide)) (List.toList_toArray ..) fun D' h10 F10 N10 l10 => ?_
    refine hret _ _ D' _ (i + 2 + ((1 + p3).toNat : Int)) ((Keep.of_base hg F10.keep)) ⟨oc', tcc, (N10 _ (.tail _ (.tail _ (.tail _ (.tail _ (.tail _ (.tail _ (.head _)))))))).1, hd'⟩ (ll_b r3) (ll_c r3) ⟨_, iw, _, (N10 _ (.head _)).1, rfl, 0, rfl⟩ ?_ (lit_tid r5 (ll_4 r3) ez pw ow)
    have q := (N10 _ (.head _)).2.2
    cases e : s.heap.get? D' with
    | none => rfl
    | some o =>
      rw [hide1 hg e (fun m => by
        have := l10 (c, oc') (.tail _ (.tail _ (.tail _ (.tail _ (.tail _ (.head _))))))
        exact absurd (List.mem_singleton.mp m) (Nat.ne_of_gt this))] at q
      cases q
end
end SLCl
theorem word34 : True := by
  k_with_none
  k_with "call builtin:len" => (k_here; (with_reducible show wpAny _ _ (call (Value.builtin "len") [Value.ref _]) _ _ _); (with_unfolding_all refine' len_tupI ?k1 ?k2 ?k3 ?_; (case k1 => first | assumption | exact Fr.tup (by assumption) (by assumption)); (case k2 => l_ints); (case k3 => l_fit); k_whole))
  k_with "call builtin:len" => (k_here; (with_reducible show wpAny _ _ (call (Value.builtin "len") [Value.ref _]) _ _ _); (with_unfolding_all refine' len_lst ?k1 ?k3 ?_; (case k1 => exact News.isList (by k_asm) (by k_mem)); (case k3 => (simp only [List.length_map]; omega)); k_whole))
  k_with "subscriptTail" => (k_here; (with_reducible show wpAny _ _ (subscriptTail _ _ (Value.ref _) (Value.int _ _)) _ _ _); (with_unfolding_all refine' item_tuple_ints ?k1 ?k2 ?k3 ?k4 ?k5 ?_ ?k6 ?k7; (case k1 => first | assumption | exact Fr.tup (by assumption) (by assumption)); (case k2 => l_ints); (case k3 => omega); (case k4 => omega); (case k5 => omega); (case k6 => with_unfolding_all rfl); (case k7 => (intro _; with_unfolding_all rfl)); k_whole); intro _)
  k_with "subscriptTail" => (k_here; (with_reducible show wpAny _ _ (subscriptTail _ _ (Value.ref _) (Value.int _ _)) _ _ _); (with_unfolding_all refine' item_listR ?k1 ?k2 ?k3 ?k4 ?_ ?k6; (case k4 => assumption); (case k1 => exact News.isList (by k_asm) (by k_mem)); (case k2 => omega); (case k3 => omega); (case k6 => with_unfolding_all rfl); k_whole))
  k_with "exec For Name Name cons nil" => (k_here; (rename Fr _ _ _ _ => lF'); (with_unfolding_all refine' for_walksF lF' ?k1 ?k2 ?_; (case k1 => exact rfl); (case k2 => exact rfl); k_whole))
  k_with "exec For Name Call cons nil" => (k_here; (rename Fr _ _ _ _ => lF'); (with_unfolding_all refine' for_walksF lF' ?k1 ?k2 ?_; (case k1 => exact rfl); (case k2 => exact rfl); k_whole))
  trivial
section SLCh

/-- a clause or none -/
def HereAt (h : Heap) (v : Value) (o : Option (List Int)) : Prop := match o with | none => v = .none | some xs => ∃ a, v = .ref a ∧ TupInts h a xs
theorem pin_here {g h : Heap} {L : Addr} {m : Str → Option Value} {v : Value} {o : Option (List Int)} (F : Fr g L h m) (x : HereAt h v o) : Pinned g L h fun h => HereAt h v o := by
  cases o with
  | none => exact pin_true.imp fun _ _ => x
  | some xs => obtain ⟨a, e, t⟩ := x; exact (pin_tupi F t).imp fun _ t => ⟨a, e, t⟩
theorem HereAt.keepN {h h' : Heap} {W : List Addr} {v : Value} {o : Option (List Int)} (k : Keep W h h') (n : ∀ b ∈ W, ∀ vs, ¬ IsTup h b vs) (x : HereAt h v o) : HereAt h' v o := by
  cases o with
  | none => exact x
  | some xs => obtain ⟨a, e, t⟩ := x; exact ⟨a, e, tupi_keepN k n t⟩
theorem PairsV.nil {h : Heap} : PairsV h [] [] := ⟨rfl, fun i p e => by cases e⟩
theorem PairsV.snoc {h : Heap} {vs : List Value} {ps : List (Int × Int)} {q : Addr} {x y : Int} {t u : Tok} (pv : PairsV h vs ps) (ht : IsTup h q (List.toArray [.int x t, .int y u])) : PairsV h (vs ++ [.ref q]) (ps ++ [(x, y)]) := by
  refine ⟨by rw [List.length_append, List.length_append, pv.1]; rfl, fun i p e => ?_⟩
  rcases Nat.lt_or_ge i ps.length with hi | hi
  · rw [List.getElem?_append_left hi] at e
    obtain ⟨q', t', u', e', ht'⟩ := pv.2 i p e
    exact ⟨q', t', u', by rw [List.getElem?_append_left (pv.1 ▸ hi)]; exact e', ht'⟩
  · rw [List.getElem?_append_right hi] at e
    have h0 : i - ps.length = 0 := by
      rcases Nat.eq_zero_or_pos (i - ps.length) with z | z
      · exact z
      · rw [List.getElem?_eq_none (show ([(x, y)] : List (Int × Int)).length ≤ _ from z)] at e; cases e
    rw [h0] at e
    cases e
    exact ⟨q, t, u, by rw [List.getElem?_append_right (pv.1 ▸ hi), pv.1, h0]; rfl, ht⟩
theorem PairsV.keepN {h h' : Heap} {W : List Addr} {vs : List Value} {ps : List (Int × Int)} (k : Keep W h h') (n : ∀ b ∈ W, ∀ vs, ¬ IsTup h b vs) (pv : PairsV h vs ps) : PairsV h' vs ps :=
  ⟨pv.1, fun i p hp => let ⟨q, t, u, e, ht⟩ := pv.2 i p hp; ⟨q, t, u, e, tup_keepN k n ht⟩⟩
theorem pin_pairs {g h : Heap} {L : Addr} {m : Str → Option Value} {vs : List Value} {ps : List (Int × Int)} (F : Fr g L h m) (pv : PairsV h vs ps) : Pinned g L h fun h => PairsV h vs ps := by
  suffices H : ∀ n, n ≤ ps.length → Pinned g L h fun h => ∀ (i : Nat) p, i < n → ps[i]? = some p → PairIs h vs i p from
    (H ps.length (Nat.le_refl _)).imp fun h' x => ⟨pv.1, fun i p e => x i p (List.getElem?_eq_some_iff.mp e).1 e⟩
  intro n
  induction n with
  | zero => intro _; exact pin_true.imp fun _ _ i p hi => absurd hi (Nat.not_lt_zero _)
  | succ n ih =>
    intro hn
    have hp : ps[n]? = some ps[n] := List.getElem?_eq_getElem hn
    obtain ⟨q, t, u, e, ht⟩ := pv.2 n _ hp
    refine ((ih (Nat.le_of_succ_le hn)).and (pin_tup F ht)).imp fun h' ⟨x, y⟩ i p hi hpi => ?_
    rcases Nat.lt_succ_iff_lt_or_eq.mp hi with hi | hi
    · exact x i p hi hpi
    · subst hi
      rw [hp] at hpi
      cases hpi
      exact ⟨q, t, u, e, y⟩
theorem news_tail {g h : Heap} {L : Addr} {a : Addr × Obj} {l : List (Addr × Obj)} (N : News g L h (a :: l)) : News g L h l := fun q hq => N q (.tail _ hq)
theorem news_lt {D n : Nat} {news : List (Addr × Obj)} (hD : n ≤ D) (hb : ∀ q ∈ news, q.1 < n) : AllLt D news := by
  induction news with
  | nil => exact trivial
  | cons a l ih => exact ⟨Nat.lt_of_lt_of_le (hb a (.head _)) hD, ih fun q hq => hb q (.tail _ hq)⟩
abbrev frH {g h : Heap} {L : Addr} {m : Str → Option Value} (_ : Fr g L h m) : Heap := h
theorem in_base {prog : Program} {w : World} {A : Around} {E Q : Value → Shared → Prop} {s : Shared} {g : Heap} {L a : Addr} {m : Str → Option Value} {vs : List Value} {ns : List Int} {x : Int} {u : Tok} (F : Fr g L s.heap m) (ht : IsTup g a vs.toArray) (hi : IntsAre vs ns)
    (hq : Q (.bool (ns.any (· == x))) s) : wpAny (model prog w) A (compareOp .In (.int x u) (.ref a)) Q E s := in_tuple_ints (F.tup ht) hi hq
theorem word35 : True := by
  k_with "compareOp In int ref" => (k_here; k_dflt (refine in_base (by k_asm) (by assumption) (by assumption) ?_))
  trivial
/-- a tuple of literals, the ground kept -/
inductive HereT (g : Heap) (L : Addr) (m : Str → Option Value) (news : List (Addr × Obj)) (s : Shared) (xv : Value) (s₁ : Shared) : Prop
  | mk (h : Heap) (tk : Nat) (t : Addr) (us : List Value) (zs : List Int) : xv = .ref t → s₁ = { s with heap := h, toks := tk } → Fr g L h m → News g L h news → IsTup h t (List.toArray us) → IntsAre us zs → (∀ x ∈ zs, 1 ≤ iab x ∧ iab x ≤ 5) → zs.length ≤ 5 → HereT g L m news s xv s₁
theorem assign_compT {prog : Program} {w : World} {A : Around} {E : Value → Shared → Prop} {env : Env} {elt iter : Expr} {x y : Str} {px py : Pos} {ifs : List Expr} {scope : Scope} {cl : List (Str × Addr)} {pos spos : Pos} {s : Shared} {Q : Flow → Shared → Prop} {g : Heap} {L : Addr} {m : Str → Option Value} {news : List (Addr × Obj)} (F : Fr g L s.heap m) (N : News g L s.heap news)
    (h1 : wpAny (model prog w) A (eval iter env) (HereT g L m news s) E s)
    (h2 : ∀ xv s₁, HereT g L m news s xv s₁ → wpAny (model prog w) A (pyIter xv) (fun it s₂ => CompAt prog w A env scope cl x ifs elt (SetFin prog w A E env y py s₂ Q) it s₂) E s₁)
    (hsw : swapsWith (.ListComp elt [⟨.Name x px, iter, ifs, 0⟩] scope pos) (some (.Name y py)) spos.line env = pure true)
    (hclos : closureFor scope env = pure cl) (hcell : ∀ z ∈ scope.names, z.2 ≠ .cell) (hkind : scope.kind = .function)
    (hnames : ∀ z ∈ scope.names, z.2 = .local → scope.names.lookup z.1 = some .local) (hx : scope.names.lookup x = some .local)
    (hs : ∀ x, foldedSetIterable iter env x = pure x := by intro _; rfl) :
    wpAny (model prog w) A (exec (.Assign [.Name y py] (.ListComp elt [⟨.Name x px, iter, ifs, 0⟩] scope pos) spos) env) Q E s := assign_compS hsw hclos hcell hkind hnames hx (wpAny_mono h1 h2 fun _ _ e => e) hs
/-- the walk waits -/
def HoldOn {α : Type} (M : Model) (A : Around) (t : Sem α) (Q : α → Shared → Prop) (E : Value → Shared → Prop) (s : Shared) : Prop := wpAny M A t Q E s
theorem hold_on {α : Type} {M : Model} {A : Around} {t : Sem α} {Q : α → Shared → Prop} {E : Value → Shared → Prop} {s : Shared} (h : HoldOn M A t Q E s) : wpAny M A t Q E s := h
theorem word36 : True := by
  k_with "exec Assign cons ListComp" => (k_here; with_reducible refine hold_on ?_)
  k_with "exec If" => (k_here; with_reducible refine hold_on ?_)
  trivial
inductive IfJ (g : Heap) (L c : Addr) (pre post : List (Addr × Obj)) (T : Obj → (Str → Option Value) → Prop) (s : Shared) (f : Flow) (s' : Shared) : Prop
  | mk (h : Heap) (tk : Nat) (m' : Str → Option Value) (oc' : Obj) : f = .next → s' = { s with heap := h, toks := tk } → Fr g L h m' → News g L h (pre ++ (c, oc') :: post) → T oc' m' → IfJ g L c pre post T s f s'
theorem if_join {M : Model} {A : Around} {t : Sem Flow} {E : Value → Shared → Prop} {Q : Flow → Shared → Prop} {s : Shared} {g : Heap} {L c : Addr} {oc : Obj} {d : Addr × Obj} {pre post : List (Addr × Obj)} (N : News g L s.heap (d :: (pre ++ (c, oc) :: post))) (T : Obj → (Str → Option Value) → Prop)
    (h1 : wpAny M A t (IfJ g L c pre post T s) E s) (h2 : ∀ h tk m' oc', Fr g L h m' → News g L h (pre ++ (c, oc') :: post) → T oc' m' → Q .next { s with heap := h, toks := tk }) : wpAny M A t Q E s :=
  wpAny_mono h1 (fun f s' ⟨h, tk, m', oc', e, e', F', N', T'⟩ => by rw [e, e']; exact h2 h tk m' oc' F' N' T') fun _ _ x => x
def REnd (g : Heap) (L I : Addr) (oI : Obj) (s : Shared) (J : (Str → Option Value) → List (Addr × Obj) → Prop) (Q : Flow → Shared → Prop) (f : Flow) (s₂ : Shared) : Prop :=
  match f with
        | .ret v => Q (.ret v) s₂
        | .brk => Q .next s₂
        | _ => LoopB g L I oI (Shared.up s) J s₂
theorem iter_rngJ {prog : Program} {w : World} {A : Around} {E : Value → Shared → Prop} {s : Shared} {env : Env} {g : Heap} {x : Str} {body : List Stmt} {Q : Flow → Shared → Prop} {r : Addr} {n : Nat} {t u v : Tok} {m : Str → Option Value} {news : List (Addr × Obj)} (J : Nat → (Str → Option Value) → List (Addr × Obj) → Prop)
    (hh : A.handled = none) (hr : IsRange s.heap r 0 (n : Int) 1 t u v) (hsz : n < 1000000) (F : Fr g env.locals s.heap m) (N : News g env.locals s.heap news) (hJ : J 0 m news)
    (turn : ∀ I (i : Nat) ti m₁ news₁ h tk oI, i < n → J i m₁ news₁ → (∀ p ∈ news₁, p.1 ≠ I) → Fr g env.locals h (fun y => if y = x then some (.int (i : Int) ti) else m₁ y) → News g env.locals h ((I, oI) :: news₁) →
      wpAny (model prog w) A (execs body env) (REnd g env.locals I oI s (J (i + 1)) Q) (fun _ _ => False) { s with heap := h, toks := tk })
    (done : ∀ h tk m₁ news₁, Fr g env.locals h m₁ → News g env.locals h news₁ → J n m₁ news₁ → Q .next { s with heap := h, toks := tk }) :
    wpAny (model prog w) A (pyIter (.ref r)) (fun it s₂ => LoopF prog w A g env x body Q it s₂) E s :=
  iter_rng J hh hr hsz F N hJ (fun I i ti m₁ news₁ h tk oI hi hj hn F' N' => wpAny_mono (turn I i ti m₁ news₁ h tk oI hi hj hn F' N') (fun f s₂ z => by cases f <;> exact z) fun _ _ x => x) done
inductive LchJ (w : World) (g : Heap) (L c cells pr PL st dp nm : Addr) (as : List Addr) (n0 : Nat) (a1 a2 a3 : Int) (t1 t2 t3 t4 : Tok) (em i first : Int) (u5 : Tok) (cls : List (List Int)) (c1 : List Int) (k : Nat) (m₁ : Str → Option Value) (news₁ : List (Addr × Obj)) : Prop
  | mk (ps : List (Int × Int)) (hv : Value) (vsP : List Value) (nP : Nat) (oC oc' : Obj) (tcc : Tok) (idx : Int) (extra : List (Addr × Obj)) : NamesAt m₁ [(Str.ofString "cup", Value.ref c), (Str.ofString "proof", .ref pr), (Str.ofString "first", .int first u5), (Str.ofString "pairs", .ref PL), (Str.ofString "here", hv)] →
    news₁ = (PL, listOf (List.toArray vsP) nP) :: (L + 1, oC) :: (ledP pr dp st nm as n0 a1 a2 a3 t1 t2 t3 t4 em ++ (c, oc') :: extra) → Obj.IsDictOf (strKind PySem.Challenge.rw_rg0222_01.row.prog w) oc' [(Str.ofString "cells", .ref cells), (Str.ofString "at", .int idx tcc)] → (∃ ov, oC.data = .cell ov) →
    i ≤ idx → idx ≤ i + 2 + 3 * (k : Int) → ps.length = k → (∀ p ∈ ps, 1 ≤ p.1 ∧ p.1 ≤ 5 ∧ 0 ≤ p.2 ∧ p.2 < as.length) → (∀ h' m', Fr g L h' m' → News g L h' extra → PairsV h' vsP ps ∧ HereAt h' hv (chainP cls (some c1) ps)) → (∀ q ∈ extra, q.1 ≠ PL) → (∀ q ∈ extra, q.1 ≠ L + 1) → (∀ q ∈ extra, q.1 ≠ c) → LchJ w g L c cells pr PL st dp nm as n0 a1 a2 a3 t1 t2 t3 t4 em i first u5 cls c1 k m₁ news₁
inductive LchT (w : World) (c cells pr PL : Addr) (idx number first : Int) (u4 u5 : Tok) (hv : Value) (oc' : Obj) (m' : Str → Option Value) : Prop
  | mk (v : Int) (tv : Tok) (idx8 : Int) (tc8 : Tok) : Obj.IsDictOf (strKind PySem.Challenge.rw_rg0222_01.row.prog w) oc' [(Str.ofString "cells", .ref cells), (Str.ofString "at", .int idx8 tc8)] → idx ≤ idx8 → idx8 ≤ idx + 3 → (1 ≤ v ∧ v ≤ 5) →
    NamesAt m' [(Str.ofString "var", Value.int v tv), (Str.ofString "number", .int number u4), (Str.ofString "cup", .ref c), (Str.ofString "proof", .ref pr), (Str.ofString "first", .int first u5), (Str.ofString "pairs", .ref PL), (Str.ofString "here", hv)] → LchT w c cells pr PL idx number first u4 u5 hv oc' m'
theorem seven_names {m : Str → Option Value} {k1 k2 k3 k4 k5 k6 k7 : Str} {v1 v2 v3 v4 v5 v6 v7 : Value} (h1 : m k1 = some v1) (h2 : m k2 = some v2) (h3 : m k3 = some v3) (h4 : m k4 = some v4) (h5 : m k5 = some v5) (h6 : m k6 = some v6) (h7 : m k7 = some v7) : NamesAt m [(k1, v1), (k2, v2), (k3, v3), (k4, v4), (k5, v5), (k6, v6), (k7, v7)] := fun p hp => by
  simp only [List.mem_cons, List.not_mem_nil, or_false] at hp
  rcases hp with rfl | rfl | rfl | rfl | rfl | rfl | rfl <;> assumption
local macro_rules | `(tactic| k_all) => `(tactic| with_reducible assumption)
theorem lc_i1 {i : Int} (h : 0 ≤ i) : 0 ≤ i + 1 := by omega
theorem lc_i2 {i : Int} (h : i < 900000) : i + 1 < 1000000 := by omega
theorem lc_i3 {i : Int} (h : i < 900000) : i + 1 + 1 < 1000000 := by omega
theorem lc_pos {n : Nat} (h : 0 < n) : 0 < (n : Int) := by omega
theorem lc_cast {n : Nat} (h : n < 200) : (n : Int) < 1000 := by omega
theorem lc_t {t : Int} (h : 0 ≤ t ∧ t < 5) : t.toNat < 1000000 := by omega
theorem lc_s {i : Int} : i ≤ i + 1 + 1 := by omega
theorem lc_s2 {i : Int} : i + 1 + 1 ≤ i + 2 + 3 * ((0 : Nat) : Int) := by omega
theorem lc_s3 {i : Int} : i + 1 + 1 ≤ i + 3 := by omega
theorem lc_s4 {i : Int} : i ≤ i + 1 + 1 + 1 := by omega
theorem lc_s5 {i : Int} : i + 1 + 1 + 1 ≤ i + 3 := by omega
theorem lc_x {i idx t : Int} {k : Nat} (h : i < 800000) (r : 0 ≤ t ∧ t < 5) (hk : k < t.toNat) (b : idx ≤ i + 2 + 3 * (k : Int)) : idx < 900000 := by omega
theorem lc_v {v : Int} (h : 0 ≤ v ∧ v < 5) : 1 ≤ 1 + v ∧ 1 + v ≤ 5 := by omega
theorem lc_k {n k : Nat} {t : Int} (e : n = k) (hk : k < t.toNat) (r : 0 ≤ t ∧ t < 5) : n < 1000 := by omega
theorem lc_e {i idx idx8 : Int} {k : Nat} (b : idx ≤ i + 2 + 3 * (k : Int)) (h : idx8 ≤ idx + 3) : idx8 ≤ i + 2 + 3 * ((k + 1 : Nat) : Int) := by omega
theorem lc_f {i idx t : Int} (r : 0 ≤ t ∧ t < 5) (b : idx ≤ i + 2 + 3 * (t.toNat : Int)) : idx ≤ i + 100 := by omega
theorem lc_g {n : Nat} {t : Int} (e : n = t.toNat) (r : 0 ≤ t ∧ t < 5) : n < 10 := by omega
theorem lc_us {n m : Nat} (h : n ≤ 5) (e : m = n) : (m : Int) < 2 ^ 63 := by omega
section
variable {w : World} {mean : ExcName → Option Value} {mg mb : Str → Option Value} {B : Heap} {s : Shared} {Q E : Value → Shared → Prop} {c cells pr dp st nm : Addr} {i : Int} {xs : List Int} {as : List Addr} {em : Int} {cls : List (List Int)}
theorem lchain_c (X : (Mine.hd.heap_39 w.params).In B) (T : Tp mean mg mb B) (hB : B.StaysIn s.heap) (hc : CupAt w s.heap c cells i) (hs : SeqInts s.heap cells xs) (hne : cells ∉ [c, st, pr, dp]) (h0 : 0 ≤ i) (h1 : i < 800000) (hxs : xs.length ≤ 60)
    (P : ProofAt s.heap pr dp st nm as em) (hO : ∀ a ∈ [c, st, pr, dp], B.get? a = none) (hcP : c ∉ [st, pr, dp]) (S : StepsAt s.heap as cls) (hlen : as.length < 200) (hlen0 : 0 < as.length) (tid : ∀ c ∈ cls, Tid c)
    (hret : ∀ h' tk R PL hv o ps first tf i', Keep [c] s.heap h' → CupAt w h' c cells i' → i ≤ i' → i' ≤ i + 100 → IsTup h' R (List.toArray [.int first tf, .ref PL, hv]) → PairsAt h' PL ps → s.heap.get? PL = none → ps.length < 10 → (∀ p ∈ ps, 1 ≤ p.1 ∧ p.1 ≤ 5 ∧ 0 ≤ p.2 ∧ p.2 < as.length) →
      0 ≤ first → first < as.length → o = chainP cls (some (cls.getD first.toNat [])) ps → HereAt h' hv o → Q (.ref R) { s with heap := h', toks := tk }) :
    wpAny (model PySem.Challenge.rw_rg0222_01.row.prog w) (lo 670 4700) (call (.ref 730) [.ref c, .ref pr]) Q E s := by
  obtain ⟨d1, d2, d3⟩ := P.ne
  have e1 := neN d1
  have e2 := neN d2
  have e3 := neN d3
  obtain ⟨a1, a2, a3, t1, t2, t3, t4, hdp⟩ := P.dict
  obtain ⟨n0, hst⟩ := P.list
  have hpi := P.inst
  obtain ⟨oc, tc, hoc, hdc⟩ := hc
  refine wpAny_call ?_
  k_dflt (refine' enterC (binds := [(Str.ofString "cup", .ref c), (Str.ofString "proof", .ref pr)]) [c, st, pr, dp] X T.nolimit hB hO ?k6 ?k7 ?k8 ?k9 ?kB ?kC ?_ ?c2 ?c3 ?c4; (case k6 => k_is); (case k7 => k_is); (case k8 => decide); (case k9 => exact BindsTo.of_eq rfl); (case kB => exact rfl); (case kC => decide); (case c2 => exact rfl); (case c3 => exact rfl); (case c4 => exact rfl))
  intro g L h₁ tk₁ cells' hg hL F N Y hk₁ sg Xg
  have Tg := T.keeps sg
  have hsg := hs.hide hg hne
  have gO : ∀ a ∈ [c, st, pr, dp], g.get? a = none := fun a m => hg ▸ hideAll_none _ m
  have gP : ∀ a ∈ [st, pr, dp], g.get? a = none := fun a m => gO a (.tail _ m)
  have hgc := gO c (.head _)
  have hcl := Heap.lt_size hoc
  have hLn : s.heap.get? L = none := hL ▸ Heap.get?_none_of_le (Nat.le_refl _)
  k_cells Y
  rename_i o1 dd1
  have hcL : c ≠ L := hL ▸ Nat.ne_of_lt hcl
  have ltL : ∀ a o, s.heap.get? a = some o → a < L := fun a o e => hL ▸ Heap.lt_size e
  have hclN := ltN (ltL _ _ hoc)
  have hstN := ltN (ltL _ _ hst)
  have hprN := ltN (ltL _ _ hpi)
  have hdpN := ltN (ltL _ _ hdp)
  have gst := gO st (.tail _ (.head _))
  have gpr := gO pr (.tail _ (.tail _ (.head _)))
  have gdp := gO dp (.tail _ (.tail _ (.tail _ (.head _))))
  have hc1 : 1 ≤ as.length := hlen0
  have N1 : News g L h₁ ((L + 1, o1) :: (ledP pr dp st nm as n0 a1 a2 a3 t1 t2 t3 t4 em ++ [(c, oc)])) :=
    news_head N (news_cons (hk₁ _ _ hst) (Nat.ne_of_lt hstN) gst (news_cons (hk₁ _ _ hpi) (Nat.ne_of_lt hprN) gpr (news_cons (hk₁ _ _ hdp) (Nat.ne_of_lt hdpN) gdp (news_cons (hk₁ _ _ hoc) hcL hgc news_nil))))
  clear N
  have hcst : c ≠ st := fun e => hcP (e ▸ .head _)
  have hcpr : c ≠ pr := fun e => hcP (e ▸ .tail _ (.head _))
  have hcdp : c ≠ dp := fun e => hcP (e ▸ .tail _ (.tail _ (.head _)))
  have hlm : (List.map Value.ref as).length = as.length := List.length_map ..
  have hlen1 : as.length < 1000 := Nat.lt_trans hlen (by decide)
  have hpos := lc_pos hlen0
  have hcast := lc_cast hlen
  have h19 : i < 900000 := Int.lt_trans h1 (by decide)
  have h01 := lc_i1 h0
  refine wpAny_mono (E := fun _ _ => False) ?_ (fun _ _ h => h) (fun _ _ h => h.elim)
  k_fold
  k_steps
  rename Fr _ _ _ _ => F2
  rename News _ _ _ _ => N2
  refine use_lo (size_c Xg Tg (by exact F2.keep) (led_proof (news_upto 3 (news_from 1 N2))) gP hlen1 fun h3 tk3 u3 k3 => ?_) rfl (Nat.le_of_ble_eq_true rfl) (Nat.le_of_ble_eq_true rfl)
  have F3 := fr_call0 F2 k3
  have N3 := news_call0 N2 k3
  clear F2 N2
  k_steps
  rename Fr _ _ _ _ => F4
  rename News _ _ _ _ => N4
  refine use_lo (pipe_c Xg Tg (by exact F4.keep) ⟨oc, tc, (news_pick 4 N4 rfl).1, hdc⟩ (hsg.fr F4) (fun e => hne (e ▸ .head _)) hgc h0 (Int.lt_trans h1 (by decide)) hpos hcast hxs fun h5 tk5 u5 k5 hc5 => ?_) rfl (Nat.le_of_ble_eq_true rfl) (Nat.le_of_ble_eq_true rfl)
  obtain ⟨oc5, tc5, hoc5, hdc5⟩ := hc5
  have F5 := fr_call F4 k5 (fun m => hcL (List.mem_singleton.mp m).symm) (fun a m => (List.mem_singleton.mp m) ▸ hgc)
  have hpre : ∀ (o : Obj), ∀ p ∈ (L + 1, o) :: ledP pr dp st nm as n0 a1 a2 a3 t1 t2 t3 t4 em, p.1 ≠ c := fun o =>
    all_cons (Nat.ne_of_gt (Nat.lt_succ_of_lt hclN)) (all_cons hcst.symm (all_cons hcpr.symm (all_cons hcdp.symm all_nil)))
  have N5 : News g L h5 ((L + 1, o1) :: (ledP pr dp st nm as n0 a1 a2 a3 t1 t2 t3 t4 em ++ [(c, oc5)])) := news_cup (pre := (L + 1, o1) :: ledP pr dp st nm as n0 a1 a2 a3 t1 t2 t3 t4 em) (post := []) N4 k5 hoc5 (hpre o1) (fun _ m => nomatch m)
  clear F4 N4
  have r5 := pipe_rng (xs := xs) (i := i) (many := as.length) hpos
  generalize pipeV xs i as.length = first at r5 ⊢
  dsimp only [ledP, List.cons_append, List.nil_append] at N5
  k_steps
  rename Fr _ _ _ _ => F6
  rename News _ _ _ _ => N6
  obtain ⟨f1, c1, rv1, ca1, pv1, nv1, hf2, hf3, hf4, hf5, hf6⟩ := S.get r5.1 r5.2
  have nW : ∀ a vs, IsTup s.heap a vs → a ∉ [c, st, pr, dp] := fun a vs t => notin_cons (fun e => by
    obtain ⟨o, ho, _, n, hd⟩ := t
    obtain ⟨es, ep, _, hd', _⟩ := hdc
    rw [e, hoc] at ho
    cases ho
    rw [hd] at hd'
    cases hd') (tup_not P t)
  have hT : ∀ {a vs}, IsTup s.heap a vs → IsTup g a vs := fun t => hideT hg t (nW _ _ t)
  refine use_lo (clause_c Xg Tg (by exact F6.keep) (led_proof (news_upto 3 (news_from 3 N6))) gP hlen1 r5.1 hf2 (F6.tup (hT hf5)) (tup_not P hf5) fun h7 tk7 k7 => ?_) rfl (Nat.le_of_ble_eq_true rfl) (Nat.le_of_ble_eq_true rfl)
  have F7 := fr_call0 F6 k7
  have N7 := news_call0 N6 k7
  clear F6 N6
  have hc1g : TupInts g ca1 c1 := by cases hf6 with | mk vs iv ht => exact ⟨vs, iv, hT ht⟩
  k_steps
  rename Fr _ _ _ _ => F8
  rename News _ _ _ _ => N8
  refine use_lo (pipe_c Xg Tg (by exact F8.keep) ⟨oc5, tc5, (news_pick 6 N8 rfl).1, hdc5⟩ (hsg.fr F8) (fun e => hne (e ▸ .head _)) hgc h01 (lc_i2 h19) (by decide) (by decide) hxs fun h9 tk9 u9 k9 hc9 => ?_) rfl (Nat.le_of_ble_eq_true rfl) (Nat.le_of_ble_eq_true rfl)
  obtain ⟨oc9, tc9, hoc9, hdc9⟩ := hc9
  have F9 := fr_call F8 k9 (fun m => hcL (List.mem_singleton.mp m).symm) (fun a m => (List.mem_singleton.mp m) ▸ hgc)
  have N9 := news_cup (pre := [_, _, _, _, _, _]) (post := []) N8 k9 hoc9 (all_cons (Nat.ne_of_gt (by assumption : _ ∧ L + 1 < _ ∧ st < _ ∧ pr < _ ∧ dp < _ ∧ c < _).2.2.2.2.2) (all_cons (Nat.ne_of_gt (by assumption : L + 1 < _ ∧ st < _ ∧ pr < _ ∧ dp < _ ∧ c < _).2.2.2.2) (hpre o1))) (fun _ m => nomatch m)
  clear F8 N8
  have r9 := pipe_rng (xs := xs) (i := i + 1) (many := 5) (by decide)
  generalize pipeV xs (i + 1) 5 = turns at r9 ⊢
  dsimp only [List.cons_append, List.nil_append] at N9
  k_steps
  rename Fr _ _ _ _ => F10
  rename News _ _ _ _ => N10
  rename IsRange _ _ _ _ _ _ _ _ => hr10
  have en : (turns.toNat : Int) = turns := Int.toNat_of_nonneg r9.1
  rw [← en] at hr10
  have N11 := news_tail N10
  have lPL := (by assumption : L + 1 < _ ∧ st < _ ∧ pr < _ ∧ dp < _ ∧ c < _)
  obtain ⟨PL, hPL⟩ := name_head N11
  subst hPL
  clear N10
  refine iter_rngJ (LchJ w g L c cells pr PL st dp nm as n0 a1 a2 a3 t1 t2 t3 t4 em i first u5 cls c1) rfl hr10 (lc_t r9) F10 N11
    ⟨[], .ref ca1, [], 0, o1, oc9, tc9, i + 1 + 1, [], five_names rfl rfl rfl rfl rfl, rfl, hdc9, ⟨_, dd1⟩, lc_s, lc_s2, rfl, (fun _ m => nomatch m), (fun h' m' F' _ => ⟨PairsV.nil, ca1, rfl, hc1g.fr F'⟩), (fun _ m => nomatch m), (fun _ m => nomatch m), (fun _ m => nomatch m)⟩ ?_ ?_
  · rintro I k ti m₁ _ h tk oI hk ⟨ps, hv, vsP, nP, oC, oc', tcc, idx, extra, hnm, rfl, hd', ⟨ov, hoC⟩, b1, b2, b3, hps, back, x1, x2, x3⟩ hI F12 N12
    rw [with_names hnm] at F12
    dsimp only [withNames] at F12
    generalize m₁ = mm at F12
    clear hnm m₁
    dsimp only [ledP, List.cons_append, List.nil_append] at N12 hI
    have bi : 0 ≤ idx := Int.le_trans h0 b1
    have bx : idx < 900000 := lc_x h1 r9 hk b2
    have hcI : c ≠ I := hI (c, oc') (List.mem_of_getElem? (i := 5) rfl)
    have hpc : ∀ (o o' o'' : Obj), ∀ p ∈ [(I, o), (PL, o'), (L + 1, o''), (st, listOf (List.toArray (as.map Value.ref)) n0), (pr, instObj 705 dp), (dp, dictOf [⟨a1, .str (Str.ofString "steps") t1, .ref st⟩, ⟨a2, .str (Str.ofString "named") t2, .ref nm⟩, ⟨a3, .str (Str.ofString "empty") t3, .int em t4⟩] 3)], p.1 ≠ c := fun o o' o'' =>
      all_cons hcI.symm (all_cons (Nat.ne_of_gt lPL.2.2.2.2) (hpre o''))
    k_steps
    rename Fr _ _ _ _ => F2
    rename News _ _ _ _ => N2
    refine use_lo (size_c Xg Tg (by exact F2.keep) (led_proof (news_upto 3 (news_from 3 N2))) gP hlen1 fun h3 tk3 u3 k3 => ?_) rfl (Nat.le_of_ble_eq_true rfl) (Nat.le_of_ble_eq_true rfl)
    have F3 := fr_call0 F2 k3
    have N3 := news_call0 N2 k3
    clear F2 N2
    k_steps
    rename Fr _ _ _ _ => F4
    rename News _ _ _ _ => N4
    refine use_lo (pipe_c Xg Tg (by exact F4.keep) ⟨oc', tcc, (news_pick 6 N4 rfl).1, hd'⟩ (hsg.fr F4) (fun e => hne (e ▸ .head _)) hgc bi (Int.lt_trans bx (by decide)) hpos hcast hxs fun h4 tk4 u4 k4 hc4 => ?_) rfl (Nat.le_of_ble_eq_true rfl) (Nat.le_of_ble_eq_true rfl)
    obtain ⟨oc4, tc4, hoc4, hdc4⟩ := hc4
    have F5 := fr_call F4 k4 (fun m => hcL (List.mem_singleton.mp m).symm) (fun a m => (List.mem_singleton.mp m) ▸ hgc)
    have N5 := news_cup (pre := [_, _, _, _, _, _]) (post := extra) N4 k4 hoc4 (hpc _ _ _) x3
    clear F4 N4
    have r4 := pipe_rng (xs := xs) (i := idx) (many := as.length) hpos
    generalize pipeV xs idx as.length = number at r4 ⊢
    dsimp only [List.cons_append, List.nil_append] at N5
    k_steps
    rename Fr _ _ _ _ => F6
    rename News _ _ _ _ => N6
    refine use_lo (pipe_c Xg Tg (by exact F6.keep) ⟨oc4, tc4, (news_pick 6 N6 rfl).1, hdc4⟩ (hsg.fr F6) (fun e => hne (e ▸ .head _)) hgc (lc_i1 bi) (lc_i2 bx) (by decide) (by decide) hxs fun h7 tk7 u7 k7' hc7 => ?_) rfl (Nat.le_of_ble_eq_true rfl) (Nat.le_of_ble_eq_true rfl)
    obtain ⟨oc7, tc7, hoc7, hdc7⟩ := hc7
    have F7 := fr_call F6 k7' (fun m => hcL (List.mem_singleton.mp m).symm) (fun a m => (List.mem_singleton.mp m) ▸ hgc)
    have N7 := news_cup (pre := [_, _, _, _, _, _]) (post := extra) N6 k7' hoc7 (hpc _ _ _) x3
    clear F6 N6
    have r7 := pipe_rng (xs := xs) (i := idx + 1) (many := 5) (by decide)
    generalize pipeV xs (idx + 1) 5 = p7 at r7 ⊢
    dsimp only [List.cons_append, List.nil_append] at N7
    k_steps
    rename Fr _ _ _ _ => F8
    rename News _ _ _ _ => N8
    have N9 := news_tail N8
    clear N8
    obtain ⟨f2, c2, rv2, ca2, pv2, nv2, hs2, hs3, hs4, hs5, hs6⟩ := S.get r4.1 r4.2
    refine use_lo (clause_c Xg Tg (by exact F8.keep) (led_proof (news_upto 3 (news_from 3 N9))) gP hlen1 r4.1 hs2 (F8.tup (hT hs5)) (tup_not P hs5) fun h10 tk10 k10 => ?_) rfl (Nat.le_of_ble_eq_true rfl) (Nat.le_of_ble_eq_true rfl)
    have F10 := fr_call0 F8 k10
    have N10 := news_call0 N9 k10
    clear F8 N9
    obtain ⟨vc2, ic2, tc2⟩ := hs6
    have tc2g := hT tc2
    have td2 : Tid c2 := tid c2 (List.mem_of_getElem? hs3)
    have nI1 : @Ne Nat I (L + 1) := neN (hI (L + 1, oC) (.tail _ (.head _))).symm
    have nI2 : @Ne Nat I PL := neN (hI (PL, listOf (List.toArray vsP) nP) (.head _)).symm
    have nP1 := ltN lPL.1
    have nP2 := ltN lPL.2.1
    have nP3 := ltN lPL.2.2.1
    have nP4 := ltN lPL.2.2.2.1
    have nP5 := ltN lPL.2.2.2.2
    k_steps
    rename Fr _ _ _ _ => F11
    rename News _ _ _ _ => N11
    unfold HoldOn
    refine assign_compT F11 N11 ?_ ?_ (by with_unfolding_all rfl) (by with_unfolding_all rfl) (by decide) rfl (by decide) rfl
    · have hho := (back _ _ F11 (news_from 7 N11)).2
      refine opt_cases (chainP cls (some c1) ps) (fun ho => ?_) (fun ws ho => ?_)
      · rw [ho] at hho
        obtain rfl : hv = .none := hho
        k_steps
        rename Fr _ _ _ _ => F13
        rename News _ _ _ _ => N13
        exact ⟨_, _, _, [], [], rfl, rfl, F13, news_tail N13, ⟨_, (N13 _ (.head _)).1, rfl, _, rfl⟩, .nil, (fun _ m => nomatch m), Nat.zero_le _⟩
      · rw [ho] at hho
        obtain ⟨a, rfl, us, iu, tu⟩ := hho
        have tw : Tid ws := chainP_tid ps (tid c1 (List.mem_of_getElem? hf3)) ho
        have lw := tw.len
        have lu := iu.length
        k_steps
        refine PyProof.Rows.truthy_tuple tu (by rw [List.size_toArray]; omega) ?_
        cases ws with
        | nil =>
          cases iu
          k_steps
          rename Fr _ _ _ _ => F13
          rename News _ _ _ _ => N13
          exact ⟨_, _, _, [], [], rfl, rfl, F13, news_tail N13, ⟨_, (N13 _ (.head _)).1, rfl, _, rfl⟩, .nil, (fun _ m => nomatch m), Nat.zero_le _⟩
        | cons x ws =>
          obtain ⟨y, us', rfl⟩ : ∃ y us', us = y :: us' := by cases iu; exact ⟨_, _, rfl⟩
          have ht : (!(List.toArray (y :: us')).isEmpty) = true := rfl
          rw [ht]
          have tu' := tu
          clear tu
          k_steps
          exact ⟨_, _, _, _, _, rfl, rfl, by assumption, by assumption, tu', iu, tw.rng, lw⟩
    · rintro xv s₁ ⟨h, tk, t, us, zs, rfl, rfl, F12, N12, tt, iz, rz, lz⟩
      refine comp_tuple rfl tt (by rw [iz.length]; exact Nat.lt_of_le_of_lt lz (by decide)) F12 N12 [] (fun _ m => nomatch m) (fun k ys news₁ => news₁ = _ ∧ ∃ zs', IntsAre ys zs' ∧ (∀ z ∈ zs', 1 ≤ z ∧ z ≤ 5) ∧ zs'.length ≤ k) ⟨rfl, [], .nil, (fun _ m => nomatch m), Nat.le_refl _⟩ ?_ ?_
      · rintro s₂ I2 es₂ up2 kk v C oC ys news₁ h tk m₂ hk hP ⟨rfl, zs', iy, ry, ly⟩ no hx F13 N13 hC hb hk2 hWC
        obtain ⟨n, hn⟩ : ∃ n, zs[kk]? = some n := ⟨_, List.getElem?_eq_getElem (iz.length ▸ hk)⟩
        obtain ⟨tn, etn⟩ := iz.get kk n hn
        rw [hP] at etn
        cases etn
        have rn := rz n (List.mem_of_getElem? hn)
        refine one_test ?_
        clear F12 N12 F11 N11
        k_steps
        · refine ⟨h, _, by rw [es₂], Keep.refl _ _, _, by assumption, news_tail (by assumption), hb, rfl, zs' ++ [_], ksk_snoc iy, fun z hz => ?_, ?_⟩
          · rcases List.mem_append.mp hz with hz | hz
            · exact ry z hz
            · rw [List.mem_singleton.mp hz]; exact rn
          · rw [List.length_append]; exact Nat.succ_le_succ ly
        · exact ⟨h, _, by rw [es₂], Keep.refl _ _, _, by assumption, news_tail (by assumption), hb, rfl, zs', iy, ry, Nat.le_succ_of_le ly⟩
      · rintro s₂ I2 D h' tk ys news₁ kk es₂ hgb hLs hD ⟨rfl, zs', iy, ry, ly⟩ hl F13 N13 hb
        refine set_fin (y := Str.ofString "fits") rfl rfl hgb hLs hD F13 N13 hb fun h8 tk8 F14 N14 => ?_
        rw [es₂]
        clear F12 N12 F13 N13 F11 N11
        have ll := iy.length
        have N15 := news_lt hD hb
        simp only [AllLt] at N15
        k_steps
        rename Fr _ _ _ _ => F16
        rename News _ _ _ _ => N16
        unfold HoldOn
        refine if_join (pre := [_, _, _, _, _, _]) (post := extra) N16 (LchT w c cells pr PL idx number first u4 u5 hv) ?_ ?_
        · refine wpAny_If ?_
          k_steps
          · rename Fr _ _ _ _ => F18
            rename News _ _ _ _ => N18
            exact ⟨_, _, _, oc7, rfl, rfl, F18, news_tail (news_tail N18), 1 + p7, tk7, idx + 1 + 1, tc7, hdc7, lc_s, lc_s3, lc_v r7, seven_names rfl rfl rfl rfl rfl rfl rfl⟩
          · rename Fr _ _ _ _ => F18
            rename News _ _ _ _ => N18
            have N19 := news_tail (news_tail N18)
            have hzz := of_decide_eq_false (by assumption : decide (zs' = []) = false)
            refine use_lo (pipe_c Xg Tg (by exact F18.keep) ⟨oc7, tc7, (news_pick 6 N19 rfl).1, hdc7⟩ (hsg.fr F18) (fun e => hne (e ▸ .head _)) hgc (lc_i1 (lc_i1 bi)) (lc_i3 bx) (by decide) (by decide) hxs fun h20 tk20 u20 k20 hc20 => ?_) rfl (Nat.le_of_ble_eq_true rfl) (Nat.le_of_ble_eq_true rfl)
            obtain ⟨oc20, tc20, hoc20, hdc20⟩ := hc20
            have hcD : D ≠ c := Nat.ne_of_gt N15.2.2.2.2.2.2.1
            have F20 := fr_call F18 k20 (fun m => hcL (List.mem_singleton.mp m).symm) (fun a m => (List.mem_singleton.mp m) ▸ hgc)
            have N20 := news_cup (pre := [(D, listOf (List.toArray ys) kk), _, _, _, _, _, _]) (post := extra) (news_tail N18) k20 hoc20 (all_cons hcD (hpc _ _ _)) x3
            clear F18 N18 N19
            have r20 := pipe_rng (xs := xs) (i := idx + 1 + 1) (many := 6) (by decide)
            generalize pipeV xs (idx + 1 + 1) 6 = p20 at r20 ⊢
            dsimp only [List.cons_append, List.nil_append] at N20
            obtain ⟨z0, zt, rfl⟩ : ∃ z0 zt, zs' = z0 :: zt := by cases zs' with | nil => exact absurd rfl hzz | cons a b => exact ⟨_, _, rfl⟩
            obtain ⟨t0, ys0, rfl⟩ : ∃ t0 ys0, ys = .int z0 t0 :: ys0 := by cases iy; exact ⟨_, _, rfl⟩
            have rz0 := ry z0 (.head _)
            k_steps
            · rename Fr _ _ _ _ => F21
              rename News _ _ _ _ => N21
              exact ⟨_, _, _, oc20, rfl, rfl, F21, news_tail N21, z0, _, idx + 1 + 1 + 1, tc20, hdc20, lc_s4, lc_s5, rz0, seven_names rfl rfl rfl rfl rfl rfl rfl⟩
            · rename Fr _ _ _ _ => F21
              rename News _ _ _ _ => N21
              exact ⟨_, _, _, oc20, rfl, rfl, F21, news_tail N21, 1 + p7, tk7, idx + 1 + 1 + 1, tc20, hdc20, lc_s4, lc_s5, lc_v r7, seven_names rfl rfl rfl rfl rfl rfl rfl⟩
        · rintro h17 tk17 m17 oc17 F17 N17 ⟨v, tv, idx8, tc8, hd17, b5, b6, rv, hm17⟩
          rw [with_names hm17] at F17
          dsimp only [withNames] at F17
          generalize m17 = mm2 at F17
          clear hm17 m17
          dsimp only [List.cons_append, List.nil_append] at N17
          have bk := back _ _ F17 (news_from 7 N17)
          have lv : vsP.length = k := bk.1.1.trans b3
          have lv2 : vsP.length < 1000 := lc_k lv hk r9
          clear bk
          k_steps
          rename Fr _ _ _ _ => F22
          rename News _ _ _ _ => N22
          rw [List.push_toArray] at N22
          have lT := (by assumption : I < _ ∧ PL < _ ∧ L + 1 < _ ∧ st < _ ∧ pr < _ ∧ dp < _ ∧ c < _ ∧ _)
          have hoC' := (by assumption : Obj.data _ = .cell (some (.ref ca2)))
          obtain ⟨T, eT⟩ := name_head N22
          subst eT
          have hTI := lT.1
          have hTP := lT.2.1
          have hTL := lT.2.2.1
          have hTc := lT.2.2.2.2.2.2.1
          clear lT
          have bk := back _ _ F22 (news_from 8 N22)
          have hcs : chainP cls (some c1) (ps ++ [(v, number)]) = (chainP cls (some c1) ps).bind fun st' => resP st' c2 v := by rw [chainP_snoc]; simp only [hs4]
          refine opt_cases (chainP cls (some c1) ps) (fun ho => ?_) (fun ws ho => ?_)
          · have hhv : hv = .none := by have := bk.2; rw [ho] at this; exact this
            subst hhv
            have hcp : chainP cls (some c1) (ps ++ [(v, number)]) = none := by rw [hcs, ho]; rfl
            refine use_lo (resolved_none_c Xg Tg (by exact F22.keep) fun h24 tk24 k24 => ?_) rfl (Nat.le_of_ble_eq_true rfl) (Nat.le_of_ble_eq_true rfl)
            have F24 := fr_call0 F22 k24
            have N24 := news_call0 N22 k24
            clear F22 N22 bk
            k_steps
            rename Fr _ _ _ _ => F25
            rename News _ _ _ _ => N25
            refine ⟨_, _, _, _, rfl, F25, news_and (news_upto 7 (news_from 1 N25)) (news_and (news_upto 1 N25) (news_from 8 N25)), (all_app (l := [_, _, _, _, _, _]) (r := _ :: extra) (all_fst (P := fun a => a ≠ I) (all_upto 6 hI) rfl) (all_cons (Nat.ne_of_gt hTI) (all_from 6 hI))), ps ++ [(v, number)], .none, vsP ++ [Value.ref T], nP + 1, _, oc17, tc8, idx8, (T, _) :: extra, five_names rfl rfl rfl rfl rfl, rfl, hd17, ⟨_, hoC'⟩, Int.le_trans b1 b5, lc_e b2 b6, by rw [List.length_append, b3]; rfl, (all_app hps (all_cons ⟨rv.1, rv.2, r4.1, r4.2⟩ all_nil)),
              (fun h' m' F' N' => ?_), (all_cons (Nat.ne_of_gt hTP) x1), (all_cons (Nat.ne_of_gt hTL) x2), (all_cons (Nat.ne_of_gt hTc) x3)⟩
            · have b' := back h' m' F' (news_tl N')
              rw [hcp]
              exact ⟨b'.1.snoc ⟨_, (N' _ (.head _)).1, rfl, _, rfl⟩, rfl⟩
          · obtain ⟨a, rfl, hta⟩ : ∃ a, hv = .ref a ∧ TupInts _ a ws := by have := bk.2; rw [ho] at this; exact this
            have tw : Tid ws := chainP_tid ps (tid c1 (List.mem_of_getElem? hf3)) ho
            refine use_lo (resolved_c Xg Tg (by exact F22.keep) hta ⟨vc2, ic2, F22.tup tc2g⟩ tw td2 rv (fun hr h24 tk24 k24 => ?_) (fun zs2 hr h24 tk24 D2 k24 tz fz => ?_)) rfl (Nat.le_of_ble_eq_true rfl) (Nat.le_of_ble_eq_true rfl)
            · have hcp : chainP cls (some c1) (ps ++ [(v, number)]) = none := by rw [hcs, ho]; exact hr
              have F24 := fr_call0 F22 k24
              have N24 := news_call0 N22 k24
              clear F22 N22 bk hta
              k_steps
              rename Fr _ _ _ _ => F25
              rename News _ _ _ _ => N25
              refine ⟨_, _, _, _, rfl, F25, news_and (news_upto 7 (news_from 1 N25)) (news_and (news_upto 1 N25) (news_from 8 N25)), (all_app (l := [_, _, _, _, _, _]) (r := _ :: extra) (all_fst (P := fun a => a ≠ I) (all_upto 6 hI) rfl) (all_cons (Nat.ne_of_gt hTI) (all_from 6 hI))), ps ++ [(v, number)], .none, vsP ++ [Value.ref T], nP + 1, _, oc17, tc8, idx8, (T, _) :: extra, five_names rfl rfl rfl rfl rfl, rfl, hd17, ⟨_, hoC'⟩, Int.le_trans b1 b5, lc_e b2 b6, by rw [List.length_append, b3]; rfl, (all_app hps (all_cons ⟨rv.1, rv.2, r4.1, r4.2⟩ all_nil)),
                (fun h' m' F' N' => ?_), (all_cons (Nat.ne_of_gt hTP) x1), (all_cons (Nat.ne_of_gt hTL) x2), (all_cons (Nat.ne_of_gt hTc) x3)⟩
              · have b' := back h' m' F' (news_tl N')
                rw [hcp]
                exact ⟨b'.1.snoc ⟨_, (N' _ (.head _)).1, rfl, _, rfl⟩, rfl⟩
            · have hcp : chainP cls (some c1) (ps ++ [(v, number)]) = some zs2 := by rw [hcs, ho]; exact hr
              have F24 := fr_call0 F22 k24
              have N24 := news_call0 N22 k24
              have hDP : D2 ≠ PL := fresh_ne fz (news_pick 2 N22 rfl).1
              have hDL1 : D2 ≠ L + 1 := fresh_ne fz (news_pick 3 N22 rfl).1
              have hDI : D2 ≠ I := fresh_ne fz (news_pick 1 N22 rfl).1
              have hDc : D2 ≠ c := fresh_ne fz (news_pick 7 N22 rfl).1
              have hDg : g.get? D2 = none := fresh_of_stays F22.keep fz
              have hDL : D2 ≠ L := fresh_neL F22 fz
              obtain ⟨vz, iz, oD, hoD, hcz, nz, hdz⟩ := tz
              have N24' := news_cons hoD hDL hDg N24
              clear F22 N22 N24 bk hta
              k_steps
              rename Fr _ _ _ _ => F25
              rename News _ _ _ _ => N25
              refine ⟨_, _, _, _, rfl, F25, news_and (news_upto 7 (news_from 2 N25)) (news_and (news_upto 2 N25) (news_from 9 N25)), (all_app (l := [_, _, _, _, _, _]) (r := _ :: _ :: extra) (all_fst (P := fun a => a ≠ I) (all_upto 6 hI) rfl) (all_cons hDI (all_cons (Nat.ne_of_gt hTI) (all_from 6 hI)))), ps ++ [(v, number)], .ref D2, vsP ++ [Value.ref T], nP + 1, _, oc17, tc8, idx8, (D2, oD) :: (T, _) :: extra, five_names rfl rfl rfl rfl rfl, rfl, hd17, ⟨_, hoC'⟩, Int.le_trans b1 b5, lc_e b2 b6, by rw [List.length_append, b3]; rfl, (all_app hps (all_cons ⟨rv.1, rv.2, r4.1, r4.2⟩ all_nil)),
                (fun h' m' F' N' => ?_), (all_cons hDP (all_cons (Nat.ne_of_gt hTP) x1)), (all_cons hDL1 (all_cons (Nat.ne_of_gt hTL) x2)), (all_cons hDc (all_cons (Nat.ne_of_gt hTc) x3))⟩
              · have b' := back h' m' F' (news_from 2 N')
                rw [hcp]
                exact ⟨b'.1.snoc ⟨_, (N' _ (.tail _ (.head _))).1, rfl, _, rfl⟩, ⟨D2, rfl, vz, iz, _, (N' _ (.head _)).1, hcz, nz, hdz⟩⟩
  · rintro h tk m₁ _ F12 N12 ⟨ps, hv, vsP, nP, oC, oc', tcc, idx, extra, hnm, rfl, hd', ⟨ov, hoC⟩, b1, b2, b3, hps, back, x1, x2, x3⟩
    rw [with_names hnm] at F12
    dsimp only [withNames] at F12
    generalize m₁ = mm at F12
    clear hnm m₁
    dsimp only [ledP, List.cons_append, List.nil_append] at N12
    k_steps
    rename Fr _ _ _ _ => F13
    rename News _ _ _ _ => N13
    have b' := back _ _ F13 (news_from 7 N13)
    exact hret _ _ _ PL hv _ ps first u5 idx ((Keep.of_base hg F13.keep).shrink (all_cons (.inl (.head _)) (all_cons (.inr (same_of hst (news_pick 3 N13 rfl).1)) (all_cons (.inr (same_of hpi (news_pick 4 N13 rfl).1)) (all_cons (.inr (same_of hdp (news_pick 5 N13 rfl).1)) all_nil))))) ⟨oc', tcc, (news_pick 6 N13 rfl).1, hd'⟩ b1 (lc_f r9 b2) ⟨_, (N13 _ (.head _)).1, rfl, _, rfl⟩ ⟨vsP, N13.isList (.tail _ (.head _)), b'.1⟩
      (hide_none hg (news_pick 1 N13 rfl).2.2 (notin_cons (Nat.ne_of_gt lPL.2.2.2.2) (notin_cons (Nat.ne_of_gt lPL.2.1) (notin_cons (Nat.ne_of_gt lPL.2.2.1) (notin_cons (Nat.ne_of_gt lPL.2.2.2.1) notin_nil))))) (lc_g b3 r9) hps r5.1 r5.2 rfl (hf4 ▸ b'.2)
end
end SLCh
theorem word38 : True := by
  k_with_none
  k_with "call builtin:len" => (k_here; (with_reducible show wpAny _ _ (call (Value.builtin "len") [Value.ref _]) _ _ _); (with_unfolding_all refine' len_tupI ?k1 ?k2 ?k3 ?_; (case k1 => first | assumption | exact Fr.tup (by assumption) (by assumption)); (case k2 => l_ints); (case k3 => l_fit); k_whole))
  k_with "call builtin:len" => (k_here; (with_reducible show wpAny _ _ (call (Value.builtin "len") [Value.ref _]) _ _ _); (with_unfolding_all refine' len_lst ?k1 ?k3 ?_; (case k1 => exact News.isList (by k_asm) (by k_mem)); (case k3 => (simp only [List.length_map]; omega)); k_whole))
  k_with "subscriptTail" => (k_here; (with_reducible show wpAny _ _ (subscriptTail _ _ (Value.ref _) (Value.int _ _)) _ _ _); (with_unfolding_all refine' item_tuple_ints ?k1 ?k2 ?k3 ?k4 ?k5 ?_ ?k6 ?k7; (case k1 => first | assumption | exact Fr.tup (by assumption) (by assumption)); (case k2 => l_ints); (case k3 => omega); (case k4 => omega); (case k5 => omega); (case k6 => with_unfolding_all rfl); (case k7 => (intro _; with_unfolding_all rfl)); k_whole); intro _)
  k_with "subscriptTail" => (k_here; (with_reducible show wpAny _ _ (subscriptTail _ _ (Value.ref _) (Value.int _ _)) _ _ _); (with_unfolding_all refine' item_listR ?k1 ?k2 ?k3 ?k4 ?_ ?k6; (case k4 => assumption); (case k1 => exact News.isList (by k_asm) (by k_mem)); (case k2 => omega); (case k3 => omega); (case k6 => with_unfolding_all rfl); k_whole))
  k_with "exec For Name Name cons nil" => (k_here; (rename Fr _ _ _ _ => lF'); (with_unfolding_all refine' for_walksF lF' ?k1 ?k2 ?_; (case k1 => exact rfl); (case k2 => exact rfl); k_whole))
  k_with "exec For Name Call cons nil" => (k_here; (rename Fr _ _ _ _ => lF'); (with_unfolding_all refine' for_walksF lF' ?k1 ?k2 ?_; (case k1 => exact rfl); (case k2 => exact rfl); k_whole))
  trivial
section SLOth

section
variable {prog : Program} {w : World} {A : Around} {E : Value → Shared → Prop} {s : Shared}
theorem adjust_last (n : Nat) (hn : 1 ≤ n) : Builtin.Slice.sliceAdjust none (some (-1)) 1 (n : Int) = (0, ((n - 1 : Nat) : Int)) := by
  unfold Builtin.Slice.sliceAdjust
  have h1 : ¬ ((1 : Int) < 0) := by omega
  have h2 : ((-1 : Int) < 0) := by omega
  simp only [h1, h2, if_false, if_true]
  congr 1
  omega
theorem places_last (n : Nat) : Builtin.Slice.slicePlaces 0 (n : Int) 1 = n := by
  unfold Builtin.Slice.slicePlaces
  have h1 : (1 : Int) > 0 := by omega
  simp only [h1, if_true, Int.ediv_one]
  split <;> omega
theorem applied_last {sl : Addr} {n : Nat} {u : Tok} {Q : Int × Int × Nat → Shared → Prop} (hs : s.heap.IsSliceOf sl .none (.int (-1) u) .none) (hn : 1 ≤ n) (h : Q (0, 1, n - 1) s) :
    wpAny (model prog w) A (Builtin.Slice.sliceApplied (.ref sl) (pure (n : Int))) Q E s := by
  obtain ⟨os, hos, hcs, hds⟩ := id hs
  unfold Builtin.Slice.sliceApplied Builtin.Slice.sliceFields
  refine wpAny_bind (wpAny_bind (wpAny_field hos hds (x := .none) rfl (wpAny_bind (wpAny_field hos hds (x := .int (-1) u) rfl (wpAny_bind (wpAny_field hos hds (x := .none) rfl (wpAny_pure ?_)))))))
  refine wpAny_bind (slicePart_none ?_)
  show wpAny _ _ (if ((1 : Int) == 0) = true then _ else _) _ _ s
  rw [if_neg (by decide)]
  refine wpAny_bind (slicePart_none (wpAny_bind (slicePart_int (wpAny_bind (wpAny_pure ?_)))))
  show wpAny _ _ (match Builtin.Slice.sliceAdjust none (some (-1)) 1 (n : Int) with | (lo, hi) => pure (lo, (1 : Int), Builtin.Slice.slicePlaces lo hi 1)) _ _ s
  rw [adjust_last n hn]
  show wpAny _ _ (pure ((0 : Int), (1 : Int), Builtin.Slice.slicePlaces 0 ((n - 1 : Nat) : Int) 1)) _ _ s
  rw [places_last]
  exact wpAny_pure h
theorem pick_last (xs : Array Value) (hn : 1 ≤ xs.size) : ((List.range (xs.size - 1)).filterMap fun (k : Nat) => xs[((0 : Int) + (k : Int) * 1).toNat]?).toArray = (xs.toList.take (xs.size - 1)).toArray := by
  have e : (fun (k : Nat) => xs[((0 : Int) + (k : Int) * 1).toNat]?) = fun k => xs[0 + k]? := by
    funext k
    have : ((0 : Int) + (k : Int) * 1).toNat = 0 + k := by omega
    rw [this]
  rw [e]
  have := pick_run xs 0 (xs.size - 1)
  rw [List.filterMap_map] at this
  have e2 : ((fun x => xs[x]?) ∘ fun x => 0 + x) = fun k => xs[0 + k]? := rfl
  rw [e2] at this
  rw [this, List.drop_zero]
theorem getItem_tuple_last {t sl : Addr} {items : Array Value} {u : Tok} {Q : Value → Shared → Prop} (ht : IsTup s.heap t items) (hs : s.heap.IsSliceOf sl .none (.int (-1) u) .none) (hn : 1 ≤ items.size) (hsz : items.size ≤ sizeLine)
    (h : Q (.ref s.heap.objs.size) { s with heap := s.heap.push { cls := .type "tuple", data := .seq (items.toList.take (items.size - 1)).toArray } }) : wpAny (model prog w) A (getItem (.ref t) (.ref sl)) Q E s := by
  have hdrop : sizeOk (.seq (items.toList.take (items.size - 1)).toArray) := by
    show (items.toList.take (items.size - 1)).toArray.size ≤ sizeLine
    rw [List.size_toArray, List.length_take, Array.length_toList]
    omega
  obtain ⟨os, hos, hcs, hds⟩ := id hs
  have hTs : s.TypeIs (.ref sl) "slice" := ⟨os, hos, hcs⟩
  unfold getItem
  try with_reducible refine wpAny_holding ?_
  first | refine wpAny_bind (wpAny_pure ?_) | skip
  refine wpAny_bind (wpAny_sequenceKey ht.typeIs (by decide) ?_)
  refine wpAny_bind (wpAny_callSpecial?_slot (name := Str.ofString "__getitem__") ht.typeIs slot_tuple_getitem
    (wpAny_call_entry slot_tuple_getitem ht.typeIs entry_tuple_getitem ?_ (args_tuple_getitem _ _)))
  show wpAny _ _ (Builtin.Tuple.tupleItemsOf (.ref t) >>= _) _ _ s
  refine wpAny_bind (tupleItemsOf_ ht ?_)
  refine wpAny_bind (wpAny_typeOf hTs ?_)
  rw [if_pos (by decide)]
  refine wpAny_bind (applied_last hs hn ?_)
  have hno : ¬ (((0 : Int) == 0 && (1 : Int) == 1 && (items.size - 1) == items.size) = true) := by
    have : ((items.size - 1) == items.size) = false := by rw [beq_eq_false_iff_ne]; omega
    rw [this]; simp
  show wpAny _ _ (if ((0 : Int) == 0 && (1 : Int) == 1 && (items.size - 1) == items.size) = true then _ else _) _ _ s
  rw [if_neg hno, pick_last items hn]
  first
    | exact wpAny_bind (m := Builtin.Tuple.tupleExact _) (wpAny_newObj_type (wpAny_pure ⟨_, rfl, wpAny_pure h⟩) hdrop)
    | exact wpAny_bind (m := Builtin.Tuple.tupleExact _) (wpAny_newObj_type (wpAny_bind (wpAny_pure (wpAny_pure ⟨_, rfl, wpAny_pure h⟩))) hdrop)
    | exact wpAny_bind (wpAny_bind (m := Builtin.Tuple.tupleExact _) (wpAny_newObj_type (wpAny_pure (wpAny_pure ⟨_, rfl, wpAny_pure h⟩)) hdrop))
    | exact wpAny_bind (wpAny_bind (m := Builtin.Tuple.tupleExact _) (wpAny_newObj_type (wpAny_pure ⟨_, rfl, wpAny_pure h⟩) hdrop))
theorem cut_last {g : Heap} {L t : Addr} {m : Str → Option Value} {news : List (Addr × Obj)} {value slice : Expr} {vs zs : List Value} {u : Tok} {Q : Value → Shared → Prop} (F : Fr g L s.heap m) (N : News g L s.heap news) (ht : IsTup g t vs.toArray) (hn : 1 ≤ vs.length) (hsz : vs.length ≤ 1000) (ez : vs.take (vs.length - 1) = zs)
    (h : ∀ D h', Fr g L h' m → News g L h' ((D, (⟨.type "tuple", none, .seq zs.toArray 0, #[]⟩ : Obj)) :: news) → (∀ p ∈ news, p.1 < D) → Q (.ref D) { s with heap := h' })
    (hs : subscripted slice false (.ref t) (.ref s.heap.objs.size) = operate [.ref s.heap.objs.size, .ref t] (getItem (.ref t) (.ref s.heap.objs.size)) := by with_unfolding_all rfl)
    (hg : ∀ r, letTemporaryGo value (.ref t) r = pure () := by intro _; with_unfolding_all rfl) :
    wpAny (model prog w) A (subscriptTail value slice (.ref t) (.ref s.heap.objs.size)) Q E { s with heap := s.heap.push { cls := .type "slice", data := .fields #[.none, .int (-1) u, .none] } } := by
  have ht' : IsTup (s.heap.push { cls := .type "slice", data := .fields #[.none, .int (-1) u, .none] }) t vs.toArray := (F.tup ht).keeps fun _ _ e => Heap.get?_push_of_some _ e
  refine subscriptTail_ops (s := { s with heap := s.heap.push { cls := .type "slice", data := .fields #[.none, .int (-1) u, .none] } }) ht'.typeIs slot_tuple_getitem.lookup
    (getItem_tuple_last ht' (Heap.IsSliceOf.new ..) (by simpa using hn) (by rw [List.size_toArray, sizeLine_eq]; omega) ?_) hs hg
  have N1 := News.push (F.push { cls := .type "slice", data := .fields #[.none, .int (-1) u, .none] }) (N.grown fun _ _ e => Heap.get?_push_of_some _ e) { cls := .type "tuple", data := .seq (vs.toArray.toList.take (vs.toArray.size - 1)).toArray }
  have e1 : vs.toArray.toList.take (vs.toArray.size - 1) = zs := by rw [List.toList_toArray, List.size_toArray]; exact ez
  rw [e1] at N1 ⊢
  exact h _ _ ((F.push _).push _) N1 fun p hp => by rw [Heap.size_push]; exact Nat.lt_succ_of_lt (Heap.lt_size (N p hp).1)
theorem cut_from {g : Heap} {L t : Addr} {m : Str → Option Value} {news : List (Addr × Obj)} {value slice : Expr} {vs zs : List Value} {u : Tok} {Q : Value → Shared → Prop} (F : Fr g L s.heap m) (N : News g L s.heap news) (ht : IsTup g t vs.toArray) (hn : 1 ≤ vs.length) (hsz : vs.length ≤ 1000) (ez : vs.drop 1 = zs)
    (h : ∀ D h', Fr g L h' m → News g L h' ((D, (⟨.type "tuple", none, .seq zs.toArray 0, #[]⟩ : Obj)) :: news) → (∀ p ∈ news, p.1 < D) → Q (.ref D) { s with heap := h' })
    (hs : subscripted slice false (.ref t) (.ref s.heap.objs.size) = operate [.ref s.heap.objs.size, .ref t] (getItem (.ref t) (.ref s.heap.objs.size)) := by with_unfolding_all rfl)
    (hg : ∀ r, letTemporaryGo value (.ref t) r = pure () := by intro _; with_unfolding_all rfl) :
    wpAny (model prog w) A (subscriptTail value slice (.ref t) (.ref s.heap.objs.size)) Q E { s with heap := s.heap.push { cls := .type "slice", data := .fields #[.int (1 : Nat) u, .none, .none] } } := by
  refine slice_tuple_from (a := 1) F N (F.tup ht) (Nat.le_refl _) (by simpa using hn) (fun h' F' N' => ?_) hs hg (by rw [List.size_toArray, sizeLine_eq]; omega)
  rw [List.toList_toArray, ez] at N'
  exact h _ h' F' N' fun p hp => Nat.lt_succ_of_lt (Heap.lt_size (N p hp).1)
end
theorem ne_unit0 {prog : Program} {w : World} {A : Around} {E Q : Value → Shared → Prop} {s : Shared} {g : Heap} {L a D : Addr} {m : Str → Option Value} {news : List (Addr × Obj)} (F : Fr g L s.heap m) (ht : IsTup g a (List.toArray [])) (N : News g L s.heap news) (hm : (D, (⟨.type "tuple", none, .seq (List.toArray []) 0, #[]⟩ : Obj)) ∈ news) (hu : A.units < cLine)
    (h : Q (.bool false) s) : wpAny (model prog w) A (compareOp .NotEq (.ref a) (.ref D)) Q E s :=
  ne_tupI ⟨[], .nil, F.tup ht⟩ ⟨[], .nil, _, (N _ hm).1, rfl, _, rfl⟩ hu h
theorem ne_unit1 {prog : Program} {w : World} {A : Around} {E Q : Value → Shared → Prop} {s : Shared} {g : Heap} {L a D : Addr} {m : Str → Option Value} {news : List (Addr × Obj)} {v : Value} {vs : List Value} {x : Int} {xs : List Int} (F : Fr g L s.heap m) (ht : IsTup g a (List.toArray (v :: vs))) (hi : IntsAre (v :: vs) (x :: xs)) (N : News g L s.heap news) (hm : (D, (⟨.type "tuple", none, .seq (List.toArray []) 0, #[]⟩ : Obj)) ∈ news) (hu : A.units < cLine)
    (h : Q (.bool true) s) : wpAny (model prog w) A (compareOp .NotEq (.ref a) (.ref D)) Q E s :=
  ne_tupI ⟨_, hi, F.tup ht⟩ ⟨[], .nil, _, (N _ hm).1, rfl, _, rfl⟩ hu (by rw [decide_eq_false (List.cons_ne_nil _ _)]; exact h)
theorem led_tup {g h : Heap} {L a : Addr} {news : List (Addr × Obj)} {vs : Array Value} {n : Nat} (N : News g L h news) (hm : (a, (⟨.type "tuple", none, .seq vs n, #[]⟩ : Obj)) ∈ news) : IsTup h a vs := ⟨_, (N _ hm).1, rfl, n, rfl⟩
theorem add_tupR {prog : Program} {w : World} {A : Around} {E Q : Value → Shared → Prop} {s : Shared} {g : Heap} {L t b : Addr} {m : Str → Option Value} {news : List (Addr × Obj)} {vs : List Value} (F : Fr g L s.heap m) (N : News g L s.heap news) (ht : IsTup s.heap t vs.toArray) (hb : IsTup s.heap b (List.toArray [])) (hv : 0 < vs.length) (hz : vs.length ≤ 1000) (h : Q (.ref t) s) : wpAny (model prog w) A (binaryOp .Add (.ref t) (.ref b)) Q E s :=
  kde_addT1 F N ht hb (by rw [List.toList_toArray]; exact List.ne_nil_of_length_pos hv) (by rw [List.toList_toArray]) (by rw [List.toList_toArray, List.toList_toArray, List.length_nil]; omega) h
theorem add_tupL {prog : Program} {w : World} {A : Around} {E Q : Value → Shared → Prop} {s : Shared} {g : Heap} {L t b : Addr} {m : Str → Option Value} {news : List (Addr × Obj)} {vs : List Value} (F : Fr g L s.heap m) (N : News g L s.heap news) (ht : IsTup s.heap t (List.toArray [])) (hb : IsTup s.heap b vs.toArray) (hz : vs.length ≤ 1000) (h : Q (.ref b) s) : wpAny (model prog w) A (binaryOp .Add (.ref t) (.ref b)) Q E s :=
  kde_addT0 F N ht hb (by rw [List.toList_toArray]) (by rw [List.toList_toArray, List.toList_toArray, List.length_nil]; omega) h
theorem ne_unitP {prog : Program} {w : World} {A : Around} {E Q : Value → Shared → Prop} {s : Shared} {g : Heap} {L a D : Addr} {m : Str → Option Value} {news : List (Addr × Obj)} {vs : List Value} {xs : List Int} (F : Fr g L s.heap m) (ht : IsTup g a vs.toArray) (hi : IntsAre vs xs) (hn : 0 < xs.length) (N : News g L s.heap news) (hm : (D, (⟨.type "tuple", none, .seq (List.toArray []) 0, #[]⟩ : Obj)) ∈ news) (hu : A.units < cLine)
    (h : Q (.bool true) s) : wpAny (model prog w) A (compareOp .NotEq (.ref a) (.ref D)) Q E s :=
  ne_tupI ⟨_, hi, F.tup ht⟩ ⟨[], .nil, _, (N _ hm).1, rfl, _, rfl⟩ hu (by rw [decide_eq_false (List.ne_nil_of_length_pos hn)]; exact h)
/-- a clause of one literal or more: its first and its last, all but the first, all but the last -/
structure Ends (vs : List Value) (xs : List Int) (n1 : Int) (t1 : Tok) (nl : Int) (tl : Tok) (ws us : List Value) (ms is : List Int) : Prop where
  e0 : vs[0]? = some (.int n1 t1)
  el : vs[vs.length - 1]? = some (.int nl tl)
  ed : vs.drop 1 = ws
  et : vs.take (vs.length - 1) = us
  x0 : xs = n1 :: ms
  xl : xs = is ++ [nl]
  iw : IntsAre ws ms
  iu : IntsAre us is
theorem ints_concat : ∀ {vs : List Value} {n : Int} {t : Tok} {xs : List Int}, IntsAre (vs ++ [.int n t]) xs → ∃ is, xs = is ++ [n] ∧ IntsAre vs is
  | [], _, _, _, h => by cases h with | cons _ _ r => cases r; exact ⟨[], rfl, .nil⟩
  | _ :: vs, _, _, _, h => by
    cases h with | cons n t r =>
    obtain ⟨is, e, i⟩ := ints_concat r
    exact ⟨n :: is, by rw [e]; rfl, .cons n t i⟩
theorem ends {vs : List Value} {xs : List Int} (h : IntsAre vs xs) (hn : 0 < xs.length) : ∃ n1 t1 nl tl ws us ms is, Ends vs xs n1 t1 nl tl ws us ms is := by
  have h0 := h
  cases h with
  | nil => exact absurd hn (Nat.lt_irrefl _)
  | cons n1 t1 r =>
    rename_i ws ms
    have hl : (Value.int n1 t1 :: ws) ≠ [] := List.cons_ne_nil _ _
    have hx := List.dropLast_concat_getLast hl
    obtain ⟨nl, tl, en⟩ : ∃ nl tl, (Value.int n1 t1 :: ws).getLast hl = .int nl tl := by
      have hm := List.getLast_mem hl
      obtain ⟨i, hi, ei⟩ := List.getElem_of_mem hm
      have hi' : i < (n1 :: ms).length := by rw [← h0.length]; exact hi
      obtain ⟨t, e⟩ := h0.get i _ (List.getElem?_eq_getElem hi')
      rw [List.getElem?_eq_getElem hi, ei] at e
      exact ⟨_, t, Option.some.inj e⟩
    rw [en] at hx
    have h1 := h0
    rw [← hx] at h1
    obtain ⟨is, e, iu⟩ := ints_concat h1
    refine ⟨n1, t1, nl, tl, ws, _, ms, is, ⟨rfl, ?_, rfl, ?_, rfl, e, r, iu⟩⟩
    · rw [← List.getLast?_eq_getElem?, List.getLast?_eq_some_getLast hl, en]
    · rw [List.dropLast_eq_take]
theorem item_first {prog : Program} {w : World} {A : Around} {E Q : Value → Shared → Prop} {s : Shared} {g : Heap} {L a : Addr} {m : Str → Option Value} {value slice : Expr} {vs : List Value} {u : Tok} {x : Value} (F : Fr g L s.heap m) (ht : IsTup g a vs.toArray) (e : vs[0]? = some x) (h : Q x s)
    (hs : subscripted slice false (.ref a) (.int 0 u) = operate [.ref a, .int 0 u] (getItem (.ref a) (.int 0 u)) := by with_unfolding_all rfl) (hg : ∀ r, letTemporaryGo value (.ref a) r = pure () := by intro _; with_unfolding_all rfl) :
    wpAny (model prog w) A (subscriptTail value slice (.ref a) (.int 0 u)) Q E s := by
  have hn : 0 < vs.length := (List.getElem?_eq_some_iff.mp e).1
  exact item_tupleL (j := 0) (F.tup ht) (by decide) (by decide) (by unfold seqIndex?; simp [hn]) e h hs hg
theorem item_end {prog : Program} {w : World} {A : Around} {E Q : Value → Shared → Prop} {s : Shared} {g : Heap} {L a : Addr} {m : Str → Option Value} {value slice : Expr} {vs : List Value} {u : Tok} {x : Value} (F : Fr g L s.heap m) (ht : IsTup g a vs.toArray) (e : vs[vs.length - 1]? = some x) (h : Q x s)
    (hs : subscripted slice false (.ref a) (.int (-1) u) = operate [.ref a, .int (-1) u] (getItem (.ref a) (.int (-1) u)) := by with_unfolding_all rfl) (hg : ∀ r, letTemporaryGo value (.ref a) r = pure () := by intro _; with_unfolding_all rfl) :
    wpAny (model prog w) A (subscriptTail value slice (.ref a) (.int (-1) u)) Q E s := by
  have hn : vs.length - 1 < vs.length := (List.getElem?_eq_some_iff.mp e).1
  refine item_tupleL (j := vs.length - 1) (F.tup ht) (by decide) (by decide) ?_ e h hs hg
  unfold seqIndex?
  have h1 : (-1 : Int) < 0 := by decide
  have h2 : (0 : Int) ≤ -1 + (vs.length : Int) := by omega
  have h3 : -1 + (vs.length : Int) < (vs.length : Int) := by omega
  simp only [h1, if_true, h2, h3, decide_true, Bool.and_self]
  congr 1
  omega
theorem word39 : True := by
  k_with "compareOp NotEq ref ref" => (k_here; k_dflt (first | refine ne_unit0 (by k_asm) (by assumption) (by k_asm) (by k_mem) (by exact Nat.le_of_ble_eq_true rfl) ?_ | refine ne_unitP (by k_asm) (by assumption) (by assumption) (by assumption) (by k_asm) (by k_mem) (by exact Nat.le_of_ble_eq_true rfl) ?_))
  k_with "subscriptTail Name Slice ref ref" => (k_here; k_dflt (first
  | (refine cut_from (by k_asm) (by k_asm) (by assumption) (by assumption) (by assumption) (by assumption) ?_; intro D' h' F' N' l1; (try k_lt l1))
  | (refine cut_last (by k_asm) (by k_asm) (by assumption) (by assumption) (by assumption) (by assumption) ?_; intro D' h' F' N' l1; (try k_lt l1))))
  k_with "subscriptTail" => (k_here; k_dflt (first | ((with_reducible show wpAny _ _ (subscriptTail _ _ (Value.ref _) (Value.int (-1) _)) _ _ _); refine item_end (by k_asm) (by assumption) (by assumption) ?_) | refine item_first (by k_asm) (by assumption) (by assumption) ?_))
  k_with "binaryOp Add ref ref" => (k_here; k_dflt (first
  | refine add_tupR (by k_asm) (by k_asm) (by first | exact Fr.tup (by k_asm) (by assumption) | exact led_tup (by k_asm) (by k_mem)) (by exact led_tup (by k_asm) (by k_mem)) (Nat.le_of_ble_eq_true rfl) (Nat.le_of_ble_eq_true rfl) ?_
  | refine add_tupL (by k_asm) (by k_asm) (by first | exact Fr.tup (by k_asm) (by assumption) | exact led_tup (by k_asm) (by k_mem)) (by exact led_tup (by k_asm) (by k_mem)) (Nat.le_of_ble_eq_true rfl) ?_
  | (refine add_tups (by k_asm) (by k_asm) (by first | exact Fr.tup (by k_asm) (by assumption) | exact led_tup (by k_asm) (by k_mem)) (by exact led_tup (by k_asm) (by k_mem)) (by first | assumption | exact Nat.le_of_ble_eq_true rfl) (by first | assumption | exact Nat.le_of_ble_eq_true rfl) (by simp only [List.length_cons, List.length_nil]; omega) ?_; intro D' h' F' N' l1; (try k_lt l1))))
  trivial
inductive TupsV (h : Heap) : List Value → List (List Int) → Prop
  | nil : TupsV h [] []
  | cons {a : Addr} {o : List Int} {vs : List Value} {os : List (List Int)} : TupInts h a o → TupsV h vs os → TupsV h (.ref a :: vs) (o :: os)
theorem tv_cons {h : Heap} {a : Addr} {us : List Value} {o : List Int} {vs : List Value} {os : List (List Int)} (t : IsTup h a us.toArray) (i : IntsAre us o) (r : TupsV h vs os) : TupsV h (.ref a :: vs) (o :: os) := .cons ⟨us, i, t⟩ r
section
variable {w : World} {mean : ExcName → Option Value} {mg mb : Str → Option Value} {B : Heap} {s : Shared} {Q E : Value → Shared → Prop}
theorem others_c (X : (Mine.hd.heap_39 w.params).In B) (T : Tp mean mg mb B) (hB : B.StaysIn s.heap) {a : Addr} {xs : List Int} (ha : TupInts s.heap a xs) (hl : xs.length ≤ 5) (h0 : ∀ x ∈ xs, x ≠ 0)
    (hret : ∀ h' tk D vs os n, Keep [] s.heap h' → h'.get? D = some (listOf (List.toArray vs) n) → s.heap.get? D = none → TupsV h' vs os → vs.length ≤ 5 → (∀ o ∈ os, o ≠ xs) → Q (.ref D) { s with heap := h', toks := tk }) :
    wpAny (model PySem.Challenge.rw_rg0222_01.row.prog w) (lo 690 4900) (call (.ref 744) [.ref a]) Q E s := by
  refine wpAny_call ?_
  k_dflt (refine' enter (binds := [(Str.ofString "clause", .ref a)]) [] X T.nolimit hB (by simp) ?k6 ?k7 ?k8 ?k9 ?kB ?_ ?c5 ?c2 ?c3 ?c4; (case k6 => k_is); (case k7 => k_is); (case k8 => decide); (case k9 => exact BindsTo.of_eq rfl); (case kB => exact locs rfl); (case c5 => decide); (case c2 => exact rfl); (case c3 => exact rfl); (case c4 => exact rfl))
  intro g L h₁ hg hL F hk₁ sg Xg
  have Tg := T.keeps sg
  have N : News g L h₁ [] := fun _ m => nomatch m
  obtain ⟨vs, iv, ht⟩ := ha
  have htg : IsTup g a vs.toArray := hideT hg ht (fun m => nomatch m)
  refine wpAny_mono (E := fun _ _ => False) ?_ (fun _ _ h => h) (fun _ _ h => h.elim)
  k_fold
  by_cases hn : 0 < xs.length
  · obtain ⟨n1, t1, nl, tl, ws, us, ms, is, V⟩ := ends iv hn
    have hvl := iv.length
    have hv1 : 1 ≤ vs.length := hvl ▸ hn
    have hv9 : vs.length ≤ 1000 := by omega
    have z1 : n1 ≠ 0 := h0 n1 (V.x0 ▸ .head _)
    have zl : nl ≠ 0 := h0 nl (V.xl ▸ List.mem_append_right is (.head _))
    have ve0 := V.e0
    have vel := V.el
    have ved := V.ed
    have vet := V.et
    have viw := V.iw
    have viu := V.iu
    have lx0 := congrArg List.length V.x0
    have lxl := congrArg List.length V.xl
    rw [List.length_cons] at lx0
    rw [List.length_append] at lxl
    have lws := viw.length
    have lus := viu.length
    have ed : ∀ o ∈ [xs ++ [6], (0 - n1) :: ms, ms, is, is ++ [0 - nl]], o ≠ xs := all_cons (fun e => by have := congrArg List.length e; rw [List.length_append] at this; exact absurd this (by simp)) (all_cons (fun e => by rw [V.x0] at e; have := (List.cons.inj e).1; omega)
      (all_cons (fun e => by have := congrArg List.length e; omega) (all_cons (fun e => by have := congrArg List.length e; rw [lxl] at this; exact absurd this (by simp)) (all_cons (fun e => by rw [V.xl] at e; have := List.append_cancel_left e; have := (List.cons.inj this).1; omega) all_nil))))
    by_cases h2 : ws = []
    · subst h2
      have hus : us = [] := List.eq_nil_of_length_eq_zero (by have : ([] : List Value).length = 0 := rfl; have : [nl].length = 1 := rfl; omega)
      subst hus
      k_steps
      rename Fr _ _ _ _ => F9
      rename News _ _ _ _ => N9
      have q := (N9 _ (.head _)).2.2
      rw [hg] at q
      exact hret _ _ _ _ [xs ++ [6], (0 - n1) :: ms, ms, is, is ++ [0 - nl]] _ (Keep.of_base hg F9.keep) (N9 _ (.head _)).1 q (tv_cons (by first | exact led_tup N9 (by k_mem) | exact F9.tup (by assumption)) (ksk_snoc iv) (tv_cons (by first | exact led_tup N9 (by k_mem) | exact F9.tup (by assumption)) (.cons _ _ viw) (tv_cons (by first | exact led_tup N9 (by k_mem) | exact F9.tup (by assumption)) viw (tv_cons (by first | exact led_tup N9 (by k_mem) | exact F9.tup (by assumption)) viu (tv_cons (by first | exact led_tup N9 (by k_mem) | exact F9.tup (by assumption)) (ksk_snoc viu) .nil))))) (Nat.le_of_ble_eq_true rfl) ed
    · have hw1 : 0 < ws.length := List.length_pos_iff.mpr h2
      have hu1 : 0 < us.length := by have : [nl].length = 1 := rfl; omega
      k_steps
      rename Fr _ _ _ _ => F9
      rename News _ _ _ _ => N9
      have q := (N9 _ (.head _)).2.2
      rw [hg] at q
      exact hret _ _ _ _ [xs ++ [6], (0 - n1) :: ms, ms, is, is ++ [0 - nl]] _ (Keep.of_base hg F9.keep) (N9 _ (.head _)).1 q (tv_cons (by first | exact led_tup N9 (by k_mem) | exact F9.tup (by assumption)) (ksk_snoc iv) (tv_cons (by first | exact led_tup N9 (by k_mem) | exact F9.tup (by assumption)) (.cons _ _ viw) (tv_cons (by first | exact led_tup N9 (by k_mem) | exact F9.tup (by assumption)) viw (tv_cons (by first | exact led_tup N9 (by k_mem) | exact F9.tup (by assumption)) viu (tv_cons (by first | exact led_tup N9 (by k_mem) | exact F9.tup (by assumption)) (ksk_snoc viu) .nil))))) (Nat.le_of_ble_eq_true rfl) ed
  · obtain rfl : xs = [] := List.eq_nil_of_length_eq_zero (Nat.eq_zero_of_not_pos hn)
    obtain rfl : vs = [] := List.eq_nil_of_length_eq_zero iv.length
    k_steps
    rename Fr _ _ _ _ => F9
    rename News _ _ _ _ => N9
    have q := (N9 _ (.head _)).2.2
    rw [hg] at q
    exact hret _ _ _ _ [[6], [1]] _ (Keep.of_base hg F9.keep) (N9 _ (.head _)).1 q (tv_cons (by first | exact led_tup N9 (by k_mem) | exact F9.tup (by assumption)) (.cons _ _ .nil) (tv_cons (by first | exact led_tup N9 (by k_mem) | exact F9.tup (by assumption)) (.cons _ _ .nil) .nil)) (Nat.le_of_ble_eq_true rfl) (all_cons (List.cons_ne_nil _ _) (all_cons (List.cons_ne_nil _ _) all_nil))
end
end SLOth
section SCompM

section
variable {prog : Program} {w : World} {A : Around} {E : Value → Shared → Prop} {s : Shared} {env : Env}
theorem comp_blockM {elt iter : Expr} {x : Str} {px : Pos} {ifs : List Expr} {scope : Scope} {cl : List (Str × Addr)} {pos : Pos} {s₂ : Shared} {I : Addr} {fp wr : List Addr} {n : Nat} {P : Nat → Value → Prop}
    {St : Nat → Heap → Prop} (W : Walks prog w A I fp wr n P St) (hsz : n ≤ sizeLine) (Wr : List Addr) (J : Nat → List Value → Heap → Prop) {RR : Value → Addr → Result → Shared → Prop}
    (hcell : ∀ y ∈ scope.names, y.2 ≠ .cell) (hkind : scope.kind = .function) (hx : scope.names.lookup x = some .local) (hst : St 0 s₂.heap) (hfp : ∀ b ∈ fp, b < s₂.heap.objs.size)
    (hWr : ∀ b ∈ Wr, b < s₂.heap.objs.size ∧ b ∉ fp) (hJ : J 0 [] s₂.heap)
    (hJst : ∀ i ys h h', J i ys h → (∀ b o, b ≠ s₂.heap.objs.size → b ≠ s₂.heap.objs.size + 1 → b ∉ wr → h.get? b = some o → h'.get? b = some o) → J i ys h')
    (turn : ∀ i v C ys h tk m, C = s₂.heap.objs.size + 1 → i < n → P i v → J i ys h → h.Ns C m → m x = some v → St (i + 1) h → h.PlainList s₂.heap.objs.size (List.toArray ys) → (∀ b o, b ∉ wr → b ∉ Wr → s₂.heap.get? b = some o → h.get? b = some o) →
      CompTurn prog w A s₂ Wr (compEnvC scope cl C env) ifs elt (J (i + 1)) ys h tk)
    (hRR : ∀ D C h' tk m' ys, D = s₂.heap.objs.size → C = s₂.heap.objs.size + 1 → s₂.heap.objs.size ≤ D → s₂.heap.get? D = none → s₂.heap.get? C = none → s₂.heap.objs.size ≤ C → D ≠ C → h'.Ns C m' → h'.PlainList D (List.toArray ys) → J n ys h' → ys.length ≤ n →
      (∀ b o, b ∉ wr → b ∉ Wr → s₂.heap.get? b = some o → h'.get? b = some o) → RR (.ref D) C (.ok .next) { s₂ with heap := h', toks := tk }) :
    wpAny (model prog w) A (newList []) (fun acc s₃ => wpAny (model prog w) A (newFunctionEnv scope env.globals cl [] env.qual none .none (some env)) (fun cenv s₄ =>
      codeAny (model prog w) A (.compStart (.ListComp elt [⟨.Name x px, iter, ifs, 0⟩] scope pos) 0 (.ref I) acc { cenv with scope := relabel scope env }) (RR acc cenv.locals) s₄) E s₃) E s₂ := by
  refine wpAny_newObj_type (wpAny_newFunctionEnv hcell (by intro y hy; simp at hy) (fun h₁ hns₁ hsb₁ => ?_) hkind)
  dsimp only at hns₁ hsb₁ ⊢
  generalize hH2 : s₂.heap.push { cls := .type "list", dict := none, data := .seq ([] : List Value).toArray } = H2 at hns₁ hsb₁ ⊢
  have hC : H2.objs.size = s₂.heap.objs.size + 1 := by rw [← hH2, Heap.size_push]
  have hDC : s₂.heap.objs.size ≠ H2.objs.size := by rw [hC]; exact Nat.ne_of_lt (Nat.lt_succ_self _)
  have hCle : s₂.heap.objs.size ≤ H2.objs.size := by rw [hC]; exact Nat.le_succ _
  have below : ∀ b, b < s₂.heap.objs.size → b ≠ H2.objs.size ∧ b ≠ s₂.heap.objs.size := fun b hb => ⟨by rw [hC]; exact Nat.ne_of_lt (Nat.lt_succ_of_lt hb), Nat.ne_of_lt hb⟩
  have hDf : s₂.heap.objs.size ∉ fp := fun hm => Nat.lt_irrefl _ (hfp _ hm)
  have hCf : H2.objs.size ∉ fp := fun hm => by have := hfp _ hm; rw [hC] at this; exact Nat.lt_irrefl _ (Nat.lt_of_succ_lt this)
  have hDW : s₂.heap.objs.size ∉ Wr := fun hm => Nat.lt_irrefl _ (hWr _ hm).1
  have hCW : H2.objs.size ∉ Wr := fun hm => by have := (hWr _ hm).1; rw [hC] at this; exact Nat.lt_irrefl _ (Nat.lt_of_succ_lt this)
  have old : ∀ b o, s₂.heap.get? b = some o → h₁.get? b = some o := fun b o e => hsb₁.extBut b o (below b (Heap.lt_size e)).1 (Heap.get?_push_of_some _ (hH2 ▸ Heap.get?_push_of_some _ e))
  have hacc : h₁.PlainList s₂.heap.objs.size #[] := ⟨_, hsb₁.extBut _ _ hDC (Heap.get?_push_of_some _ (hH2 ▸ Heap.get?_push_size _ rfl))⟩
  have hst₁ : St 0 h₁ := W.frame _ _ _ hst fun b _ o e => old b o e
  have hJ₁ : J 0 [] h₁ := hJst _ _ _ _ hJ fun b o _ _ _ e => old b o e
  have fresh : ∀ a, s₂.heap.objs.size ≤ a → s₂.heap.get? a = none := fun a ha => by
    cases e : s₂.heap.get? a with
    | none => rfl
    | some o' => exact absurd (Heap.lt_size e) (Nat.not_lt.mpr ha)
  have hCw : H2.objs.size ∉ wr := fun h => hCf (W.sub _ h)
  have hDw : s₂.heap.objs.size ∉ wr := fun h => hDf (W.sub _ h)
  have loop : ∀ s₃ : Shared, s₃ = { s₂ with heap := h₁, toks := s₂.toks + ([] : List (Str × Value)).length } →
      codeAny (model prog w) A (.compLoop (.ListComp elt [⟨.Name x px, iter, ifs, 0⟩] scope pos) 0 (.ref I) (.ref s₂.heap.objs.size) (compEnvC scope cl H2.objs.size env))
        (RR (.ref s₂.heap.objs.size) H2.objs.size) s₃ := by
    rintro s₃ rfl
    refine codeAny_compLoop_tests (CompW s₂ H2.objs.size wr Wr St J n) ?_ (n + 1)
      ⟨h₁, _, _, [], 0, rfl, hst₁, hns₁, by simpa using hacc, hJ₁, Nat.le_refl _, Nat.zero_le _, rfl, fun b o _ _ e => old b o e⟩
    rintro k s' ⟨h', tk', m', ys, i, rfl, hst', hn', hac', hJ', hys, hi, rfl, hk⟩
    by_cases hlt : i < n
    · refine W.item i _ _ _ hlt hst' fun v h₂ tk₂ hPv hst₂ hk₂ => ?_
      refine wpAny_assign_Name (wpAny_storeName_local (lookup_relabel_local hx) (hn'.at' fun o e => hk₂ _ o hCw e) (fun h₃ hn₃ hs₃ => ?_) (by simp [compEnvC, relabel, hkind]))
      have up : ∀ b o, b ≠ H2.objs.size → b ∉ wr → h'.get? b = some o → h₃.get? b = some o := fun b o hbC hbw e => hs₃.extBut b o hbC (hk₂ b o hbw e)
      have hst₃ : St (i + 1) h₃ := W.frame _ _ _ hst₂ fun b hb o e => hs₃.extBut b o (fun h => hCf (by have h' : b = H2.objs.size := h; rw [← h']; exact hb)) e
      have hJ₃ : J i ys h₃ := hJst _ _ _ _ hJ' fun b o _ hb hbw e => up b o (fun q => hb (q.trans hC)) hbw e
      have hk₃ : ∀ b o, b ∉ wr → b ∉ Wr → s₂.heap.get? b = some o → h₃.get? b = some o := fun b o hbw hbW e => up b o (below b (Heap.lt_size e)).1 hbw (hk b o hbw hbW e)
      have hac₃ : h₃.PlainList s₂.heap.objs.size (List.toArray ys) := hac'.at fun o e => up _ o hDC hDw e
      have tn := turn i v H2.objs.size ys h₃ (tk₂ + 1) _ hC hlt hPv hJ₃ hn₃ (by simp) hst₃ hac₃ hk₃
      refine wpAny_mono tn (fun ok s₄ h₄ => ?_) fun _ _ f => f.elim
      have st_of : ∀ H, Keep Wr h₃ H → St (i + 1) H := fun H kp => W.frame _ _ _ hst₃ fun b hb o e => kp b o (fun m => (hWr b m).2 hb) e
      cases ok with
      | false =>
        simp only [Bool.false_eq_true, if_false] at h₄ ⊢
        obtain ⟨H₄, tk₄, rfl, kp₄, h₄⟩ := h₄
        exact ⟨n + 1 - (i + 1), by omega, H₄, tk₄, _, ys, i + 1, rfl, st_of _ kp₄, hn₃.at' fun o e => kp₄ _ o hCW e, hac₃.at fun o e => kp₄ _ o hDW e, h₄, by omega, hlt, rfl, fun b o hbw hbW e => kp₄ b o hbW (hk₃ b o hbw hbW e)⟩
      | true =>
        simp only [if_true] at h₄ ⊢
        refine wpAny_mono h₄ (fun y s₅ h₅ => ?_) fun _ _ f => f.elim
        obtain ⟨H₅, tk₅, rfl, kp, h₅⟩ := h₅
        have hac₅ : H₅.PlainList s₂.heap.objs.size (List.toArray ys) := hac₃.at fun o e => kp _ o hDW e
        refine wpAny_list_append_plain (hsz := by rw [List.size_toArray]; omega) hac₅ fun h₆ hl₆ hs₆ => ?_
        have up₆ : ∀ b o, b ≠ s₂.heap.objs.size → H₅.get? b = some o → h₆.get? b = some o := fun b o hb e => hs₆.extBut b o hb e
        refine ⟨n + 1 - (i + 1), by omega, h₆, tk₅, _, ys ++ [y], i + 1, rfl, W.frame _ _ _ (st_of _ kp) fun b hb o e => up₆ b o (fun h => hDf (h ▸ hb)) e, (hn₃.at' fun o e => up₆ _ o (Ne.symm hDC) (kp _ o hCW e)), by simpa using hl₆, ?_, by simp; omega, hlt, rfl, fun b o hbw hbW e => up₆ b o (below b (Heap.lt_size e)).2 (kp b o hbW (hk₃ b o hbw hbW e))⟩
        exact hJst _ _ _ _ h₅ fun b o hb _ _ e => up₆ b o hb e
    · have hin : i = n := by omega
      subst hin
      refine W.done _ _ _ hst' fun h₂ tk₂ hk₂ => ?_
      exact hRR _ _ h₂ tk₂ m' ys rfl hC (Nat.le_refl _) (fresh _ (Nat.le_refl _)) (fresh _ hCle) hCle hDC (hn'.at' fun o e => hk₂ _ o hCw e) (hac'.at fun o e => hk₂ _ o hDw e) (hJst _ _ _ _ hJ' fun b o _ _ hbw e => hk₂ b o hbw e) hys
        fun b o hbw hbW e => hk₂ b o hbw (hk b o hbw hbW e)
  exact codeAny_compStart_list (loop _ rfl) (W.self 0 _ _ _ hst₁ (loop _ rfl))

/-- what a comprehension asks at its iterator, where the turns make things that stay -/
inductive CompAtM (prog : Program) (w : World) (A : Around) (env : Env) (scope : Scope) (cl : List (Str × Addr)) (x : Str) (ifs : List Expr) (elt : Expr) (Fin : List Addr → Addr → List Value → Heap → Nat → Prop) (it : Value) (s₂ : Shared) : Prop
  | mk : ∀ (I fp wr n P St Wr), ∀ (J : Nat → List Value → Heap → Prop), it = .ref I → Walks prog w A I fp wr n P St → n ≤ sizeLine → St 0 s₂.heap → (∀ b ∈ fp, b < s₂.heap.objs.size) → (∀ b ∈ Wr, b < s₂.heap.objs.size ∧ b ∉ fp) → J 0 [] s₂.heap → (∀ i ys h h', J i ys h → (∀ b o, b ≠ s₂.heap.objs.size → b ≠ s₂.heap.objs.size + 1 → b ∉ wr → h.get? b = some o → h'.get? b = some o) → J i ys h') → (∀ i v C ys h tk m, C = s₂.heap.objs.size + 1 → i < n → P i v → J i ys h → h.Ns C m → m x = some v → St (i + 1) h → h.PlainList s₂.heap.objs.size (List.toArray ys) → (∀ b o, b ∉ wr → b ∉ Wr → s₂.heap.get? b = some o → h.get? b = some o) → CompTurn prog w A s₂ Wr (compEnvC scope cl C env) ifs elt (J (i + 1)) ys h tk) → (∀ D h' tk ys, D = s₂.heap.objs.size → s₂.heap.get? D = none → h'.PlainList D (List.toArray ys) → J n ys h' → ys.length ≤ n → (∀ b o, b ∉ wr → b ∉ Wr → s₂.heap.get? b = some o → h'.get? b = some o) → Fin (wr ++ Wr) D ys h' tk) → CompAtM prog w A env scope cl x ifs elt Fin it s₂
theorem eval_compM {elt iter : Expr} {x : Str} {px : Pos} {ifs : List Expr} {scope : Scope} {cl : List (Str × Addr)} {pos : Pos} {Q : Value → Shared → Prop}
    (hclos : closureFor scope env = pure cl) (hcell : ∀ y ∈ scope.names, y.2 ≠ .cell) (hkind : scope.kind = .function)
    (hnames : ∀ y ∈ scope.names, y.2 = .local → scope.names.lookup y.1 = some .local) (hx : scope.names.lookup x = some .local)
    (h : wpAny (model prog w) A (eval iter env) (fun xv s₁ => wpAny (model prog w) A (pyIter xv) (fun it s₂ => CompAtM prog w A env scope cl x ifs elt (fun _ D _ h' tk => Q (.ref D) { s₂ with heap := h', toks := tk }) it s₂) E s₁) E s)
    (hs : ∀ x, foldedSetIterable iter env x = pure x := by intro _; rfl) :
    wpAny (model prog w) A (eval (.ListComp elt [⟨.Name x px, iter, ifs, 0⟩] scope pos) env) Q E s := by
  rw [eval_ListComp]
  refine wpAny_comprehension_free (use := none) rfl hs hclos hkind hnames (wpAny_mono h (fun xv s₁ h₁ => wpAny_mono h₁ (fun it s₂ h₂ => ?_) fun _ _ e => e) fun _ _ e => e)
  obtain ⟨I, fp, wr, n, P, St, Wr, J, rfl, W, hsz, hst, hfp, hWr, hJ, hJst, turn, fin⟩ := h₂
  refine comp_blockM (RR := fun acc C => compPost (model prog w) A E none Q acc C) W hsz Wr J hcell hkind hx hst hfp hWr hJ hJst turn ?_
  intro D C h' tk m' ys hDe hCe hDle hD hC hCle hDC hn hpl hJn hlen hk
  refine ⟨m', hn, fun h'' hs'' => ?_⟩
  exact fin D h'' tk ys hDe hD (hpl.extBut hs''.extBut hDC) (hJst _ _ _ _ hJn fun b o _ hb _ e => hs''.extBut b o (fun q => hb (q.trans hCe)) e) hlen
    fun b o hbw hbW e => hs''.extBut b o (by rintro rfl; rw [hC] at e; cases e) (hk b o hbw hbW e)

end
section
variable {prog : Program} {w : World} {A : Around} {E : Value → Shared → Prop} {s₂ : Shared} {env : Env} {g : Heap}
inductive LedJM (g : Heap) (L n : Nat) (m : Str → Option Value) (I : Addr) (J : List (Addr × Obj) → Prop) (h₄ : Heap) : Prop
  | mk (news₂ : List (Addr × Obj)) : Fr g L h₄ m → News g L h₄ news₂ → (∀ q ∈ news₂, q.1 ≠ n ∧ q.1 ≠ n + 1 ∧ q.1 ≠ I) → J news₂ → LedJM g L n m I J h₄
def MElt (g : Heap) (L : Addr) (s₂ : Shared) (m : Str → Option Value) (I : Addr) (Wr : List Addr) (h : Heap) (J : List Value → List (Addr × Obj) → Prop) (ys : List Value) (y : Value) (s₄ : Shared) : Prop :=
  CompK s₂ Wr h (LedJM g L s₂.heap.objs.size m I (J (ys ++ [y]))) s₄
def MNo (g : Heap) (L : Addr) (s₂ : Shared) (m : Str → Option Value) (I : Addr) (Wr : List Addr) (h : Heap) (J : List Value → List (Addr × Obj) → Prop) (ys : List Value) (s₄ : Shared) : Prop :=
  CompK s₂ Wr h (LedJM g L s₂.heap.objs.size m I (J ys)) s₄
/-- an object that is no tuple -/
inductive NoTup (h : Heap) (b : Addr) : Prop
  | mk : ∀ (o), h.get? b = some o → (∀ vs n, o.data = .seq vs n → o.cls ≠ .type "tuple") → NoTup h b
def MTurn (prog : Program) (w : World) (A : Around) (env : Env) (scope : Scope) (cl : List (Str × Addr)) (x : Str) (ifs : List Expr) (elt : Expr) (g : Heap) (s₂ : Shared) (m : Str → Option Value) (I : Addr) (n : Nat) (P : Nat → Value → Prop) (Wr : List Addr) (J : Nat → List Value → List (Addr × Obj) → Prop) : Prop :=
  ∀ i v C oC ys news₁ h tk m₂, i < n → P i v → J i ys news₁ → LCg.NsObj oC m₂ → m₂ x = some v → Fr g env.locals h m → News g env.locals h ((C, oC) :: news₁) → C = s₂.heap.objs.size + 1 → (∀ q ∈ news₁, q.1 ≠ s₂.heap.objs.size ∧ q.1 ≠ s₂.heap.objs.size + 1 ∧ q.1 ≠ I) →
    (∀ b ∈ [s₂.heap.objs.size, s₂.heap.objs.size + 1, I], NoTup h b) → (∀ b o, b ≠ I → b ∉ Wr → s₂.heap.get? b = some o → h.get? b = some o) →
    wpAny (model prog w) A (testsOf ifs (compEnvC scope cl C env)) (fun ok s₃ => if ok = true then wpAny (model prog w) A (eval elt (compEnvC scope cl C env)) (MElt g env.locals s₂ m I Wr h (J (i + 1)) ys) (fun _ _ => False) s₃
      else MNo g env.locals s₂ m I Wr h (J (i + 1)) ys s₃) (fun _ _ => False) { s₂ with heap := h, toks := tk }
/-- over a list of the ledger, where the turns make things that stay -/
theorem comp_listM {elt : Expr} {x : Str} {ifs : List Expr} {scope : Scope} {cl : List (Str × Addr)} {a : Addr} {vs : List Value} {k0 : Nat} {m : Str → Option Value} {news : List (Addr × Obj)} {s : Shared} {Fin : Shared → List Addr → Addr → List Value → Heap → Nat → Prop}
    (hh : A.handled = none) (ha : (a, listOf vs.toArray k0) ∈ news) (hsz : vs.length < 1000) (F : Fr g env.locals s.heap m) (N : News g env.locals s.heap news)
    (Wr : List Addr) (hWr : ∀ b ∈ Wr, b < s.heap.objs.size ∧ b ≠ a) (J : Nat → List Value → List (Addr × Obj) → Prop) (hJ : J 0 [] news)
    (turn : ∀ s₂ I, s₂ = { s with heap := s₂.heap } → s₂.heap.objs.size = s.heap.objs.size + 1 → (∀ b o, s.heap.get? b = some o → s₂.heap.get? b = some o) → I = s.heap.objs.size → MTurn prog w A env scope cl x ifs elt g s₂ m I vs.length (fun i v => vs[i]? = some v) Wr J)
    (fin : ∀ s₂ I D h' tk ys news₁ k, s₂ = { s with heap := s₂.heap } → (∀ b o, g.get? b = some o → b < s₂.heap.objs.size) → env.locals < s₂.heap.objs.size → s₂.heap.objs.size = D → J vs.length ys news₁ → ys.length ≤ vs.length → Fr g env.locals h' m → News g env.locals h' ((D, listOf (List.toArray ys) k) :: news₁) → (∀ q ∈ news₁, q.1 ≠ D) → (∀ b o, b ≠ I → b ∉ Wr → s₂.heap.get? b = some o → h'.get? b = some o) → Fin s₂ ([I] ++ Wr) D ys h' tk) :
    wpAny (model prog w) A (pyIter (.ref a)) (fun it s₂ => CompAtM prog w A env scope cl x ifs elt (Fin s₂) it s₂) E s := by
  have hl := N.isList ha
  have hlt : a < s.heap.objs.size := Heap.lt_size (N _ ha).1
  refine wpAny_pyIter_list hl ?_
  have W : Walks prog w A s.heap.objs.size _ _ vs.length _ _ := Walks.list (prog := prog) (w := w) hh s.heap.objs.size a (Nat.ne_of_lt hlt) vs.toArray
  have hIg : g.get? s.heap.objs.size = none := by
    cases q : g.get? s.heap.objs.size with
    | none => rfl
    | some o => exact absurd (Heap.lt_size (F.keep _ _ q)) (Nat.lt_irrefl _)
  have hLs := F.ns.lt
  generalize hoI : ({ cls := .type "list_iterator", data := .fields #[.ref a, .int 0 0] } : Obj) = oI
  have hS : (s.heap.push oI).objs.size = s.heap.objs.size + 1 := Heap.size_push ..
  have up : ∀ b, b < s.heap.objs.size → b < (s.heap.push oI).objs.size := fun b h => by rw [hS]; exact Nat.lt_succ_of_lt h
  have hgs : ∀ b o, g.get? b = some o → b < s.heap.objs.size := fun b o e => Heap.lt_size (F.keep _ _ e)
  refine ⟨s.heap.objs.size, _, _, vs.length, _, _, Wr, fun i ys h => LedJM g env.locals (s.heap.push oI).objs.size m s.heap.objs.size (J i ys) h, rfl, W, by rw [sizeLine_eq]; omega, ⟨⟨_, Heap.get?_push_size _ (by rw [← hoI]; rfl), by rw [← hoI], by rw [← hoI]; rfl⟩, hl.at fun o e => Heap.get?_push_of_some _ e⟩, (fun b hb => ?_), (fun b hb => ⟨up b (hWr b hb).1, fun z => ?_⟩),
    ⟨news, F.push _, fun p hp => ⟨Heap.get?_push_of_some _ (N p hp).1, (N p hp).2⟩, fun p hp => ?_, hJ⟩, ?_, ?_, ?_⟩
  · rcases List.mem_cons.mp hb with rfl | hb
    · show _ < (s.heap.push oI).objs.size; rw [hS]; exact Nat.lt_succ_self _
    · rw [List.mem_singleton.mp hb]; exact up _ hlt
  · rcases List.mem_cons.mp z with q | z
    · rw [q] at hb; exact absurd (hWr _ hb).1 (Nat.lt_irrefl _)
    · exact (hWr _ hb).2 (List.mem_singleton.mp z)
  · have hp1 := Heap.lt_size (N p hp).1
    rw [hS]
    exact ⟨Nat.ne_of_lt (Nat.lt_succ_of_lt hp1), Nat.ne_of_lt (Nat.lt_succ_of_lt (Nat.lt_succ_of_lt hp1)), Nat.ne_of_lt hp1⟩
  · rintro i ys h h' ⟨news₁, F₁, N₁, b₁, j₁⟩ hk
    obtain ⟨oL, es, ep, eL, r⟩ := F₁.ns
    have ne3 : ∀ b, b < s.heap.objs.size → b ≠ (s.heap.push oI).objs.size ∧ b ≠ (s.heap.push oI).objs.size + 1 ∧ b ∉ [s.heap.objs.size] := fun b hb => by
      rw [hS]
      exact ⟨Nat.ne_of_lt (Nat.lt_succ_of_lt hb), Nat.ne_of_lt (Nat.lt_succ_of_lt (Nat.lt_succ_of_lt hb)), fun q => Nat.ne_of_lt hb (List.mem_singleton.mp q)⟩
    obtain ⟨l1, l2, l3⟩ := ne3 _ hLs
    exact ⟨news₁, ⟨⟨oL, es, ep, hk _ _ l1 l2 l3 eL, r⟩, fun b o e => let ⟨g1, g2, g3⟩ := ne3 b (hgs b o e); hk b o g1 g2 g3 (F₁.keep b o e), F₁.above⟩,
      fun q hq => ⟨hk _ _ (b₁ q hq).1 (b₁ q hq).2.1 (fun z => (b₁ q hq).2.2 (List.mem_singleton.mp z)) (N₁ q hq).1, (N₁ q hq).2⟩, b₁, j₁⟩
  · rintro i v C ys h tk m₂ hC hi hP ⟨news₁, F₁, N₁, b₁, j₁⟩ hns hx hst hpl hk
    obtain ⟨oC, e, no⟩ := LCg.ns_obj hns
    have hgC : g.get? C = none := by
      cases q : g.get? C with
      | none => rfl
      | some o =>
        have := hgs _ _ q
        rw [hC] at this
        exact absurd (up _ this) (Nat.not_lt.mpr (Nat.le_succ _))
    have hCL : C ≠ env.locals := by
      rw [hC]
      exact Nat.ne_of_gt (Nat.lt_succ_of_lt (up _ hLs))
    refine turn { s with heap := s.heap.push oI } s.heap.objs.size rfl hS (fun b o q => Heap.get?_push_of_some _ q) rfl i v C oC ys news₁ h tk m₂ hi (by simpa using hP) j₁ no hx F₁ (fun q hq => ?_) hC b₁ (fun b hb => ?_) (fun b o n1 n2 q => hk b o (fun z => n1 (List.mem_singleton.mp z)) n2 q)
    · rcases List.mem_cons.mp hq with rfl | hq
      · exact ⟨e, hCL, hgC⟩
      · exact N₁ q hq
    · rcases List.mem_cons.mp hb with rfl | hb
      · obtain ⟨n, e1⟩ := hpl
        exact ⟨_, e1, fun _ _ _ e => absurd (show Value.type "list" = Value.type "tuple" from e) (by decide)⟩
      rcases List.mem_cons.mp hb with rfl | hb
      · obtain ⟨o', es, ep, ho', hd', _⟩ := hns
        exact ⟨o', hC ▸ ho', fun _ _ e1 => by rw [hd'] at e1; cases e1⟩
      · rw [List.mem_singleton.mp hb]
        obtain ⟨o, ho, _, hd⟩ := hst.1
        exact ⟨o, ho, fun _ _ e1 => by rw [hd] at e1; cases e1⟩
  · rintro D h' tk ys hD hDn ⟨k, hpl⟩ ⟨news₁, F₁, N₁, b₁, j₁⟩ hl hk
    have hLD : env.locals < (s.heap.push oI).objs.size := up _ hLs
    refine fin { s with heap := s.heap.push oI } s.heap.objs.size D h' tk ys news₁ k rfl (fun b o q => up b (hgs b o q)) hLD hD.symm j₁ hl F₁ (fun q hq => ?_) (fun q hq => hD ▸ (b₁ q hq).1) (fun b o n1 n2 q => hk b o (fun z => n1 (List.mem_singleton.mp z)) n2 q)
    rcases List.mem_cons.mp hq with rfl | hq
    · refine ⟨hpl, ?_, ?_⟩
      · rw [hD]; exact Nat.ne_of_gt hLD
      · cases q : g.get? D with
        | none => rfl
        | some o => have := up _ (hgs _ _ q); rw [hD] at this; exact absurd this (Nat.lt_irrefl _)
    · exact N₁ q hq
end
end SCompM
section SChdA

theorem chainP_ext {cls ds : List (List Int)} : ∀ {ps : List (Int × Int)} {o : Option (List Int)}, (∀ p ∈ ps, 0 ≤ p.2 ∧ p.2 < cls.length) → chainP (cls ++ ds) o ps = chainP cls o ps
  | [], _, _ => rfl
  | p :: ps, o, h => by
    have hp := h p (.head _)
    have e : (cls ++ ds).getD p.2.toNat [] = cls.getD p.2.toNat [] := by
      rw [List.getD_eq_getElem?_getD, List.getD_eq_getElem?_getD, List.getElem?_append_left (by omega)]
    show chainP (cls ++ ds) (o.bind fun st => resP st ((cls ++ ds).getD p.2.toNat []) p.1) ps = chainP cls (o.bind fun st => resP st (cls.getD p.2.toNat []) p.1) ps
    rw [e]
    exact chainP_ext fun q hq => h q (.tail _ hq)
theorem getD_ext {cls ds : List (List Int)} {i : Int} (h0 : 0 ≤ i) (h : i < cls.length) : (cls ++ ds).getD i.toNat [] = cls.getD i.toNat [] := by
  rw [List.getD_eq_getElem?_getD, List.getD_eq_getElem?_getD, List.getElem?_append_left (by omega)]
inductive ClT (g : Heap) (L : Addr) (m : Str → Option Value) (news : List (Addr × Obj)) (s : Shared) (cc : List Int) (v : Value) (s₁ : Shared) : Prop
  | mk : ∀ (h tk cl), v = .ref cl → s₁ = { s with heap := h, toks := tk } → Fr g L h m → News g L h news → TupInts g cl cc → ClT g L m news s cc v s₁
theorem join_cl {M : Model} {A : Around} {t : Sem Value} {E : Value → Shared → Prop} {Q : Value → Shared → Prop} {s : Shared} {g : Heap} {L : Addr} {m : Str → Option Value} {news : List (Addr × Obj)} (F : Fr g L s.heap m) (N : News g L s.heap news) (cc : List Int)
    (h1 : wpAny M A t (ClT g L m news s cc) E s) (h2 : ∀ h tk cl, Fr g L h m → News g L h news → TupInts g cl cc → Q (.ref cl) { s with heap := h, toks := tk }) : wpAny M A t Q E s :=
  wpAny_mono h1 (fun v s' ⟨h, tk, cl, e, e', F', N', T'⟩ => by rw [e, e']; exact h2 h tk cl F' N' T') fun _ _ x => x
inductive LsT (g : Heap) (L : Addr) (m : Str → Option Value) (news : List (Addr × Obj)) (s : Shared) (R : Heap → Addr → List Value → Prop) (v : Value) (s₁ : Shared) : Prop
  | mk : ∀ (h tk IT vs n), v = .ref IT → s₁ = { s with heap := h, toks := tk } → Fr g L h m → News g L h ((IT, listOf (List.toArray vs) n) :: news) → R h IT vs → LsT g L m news s R v s₁
def EvFin (Q : Value → Shared → Prop) (s₂ : Shared) (W : List Addr) (D : Addr) (ys : List Value) (h' : Heap) (tk : Nat) : Prop := Q (.ref D) { s₂ with heap := h', toks := tk }
theorem eval_compL {prog : Program} {w : World} {A : Around} {E : Value → Shared → Prop} {s : Shared} {env : Env} {g : Heap} {L : Addr} {m : Str → Option Value} {news : List (Addr × Obj)} {elt iter : Expr} {x : Str} {px : Pos} {ifs : List Expr} {scope : Scope} {cl : List (Str × Addr)} {pos : Pos} {Q : Value → Shared → Prop}
    (F : Fr g L s.heap m) (N : News g L s.heap news) (R : Heap → Addr → List Value → Prop) (h1 : wpAny (model prog w) A (eval iter env) (LsT g L m news s R) E s)
    (h2 : ∀ h tk IT vs n, Fr g L h m → News g L h ((IT, listOf (List.toArray vs) n) :: news) → R h IT vs → wpAny (model prog w) A (pyIter (.ref IT)) (fun it s₂ => CompAt prog w A env scope cl x ifs elt (EvFin Q s₂) it s₂) E { s with heap := h, toks := tk })
    (hclos : closureFor scope env = pure cl) (hcell : ∀ y ∈ scope.names, y.2 ≠ .cell) (hkind : scope.kind = .function)
    (hnames : ∀ y ∈ scope.names, y.2 = .local → scope.names.lookup y.1 = some .local) (hx : scope.names.lookup x = some .local)
    (hs : ∀ x, foldedSetIterable iter env x = pure x := by intro _; rfl) :
    wpAny (model prog w) A (eval (.ListComp elt [⟨.Name x px, iter, ifs, 0⟩] scope pos) env) Q E s :=
  eval_comp hclos hcell hkind hnames hx (wpAny_mono h1 (fun v s₁ ⟨h, tk, IT, vs, n, e, e', F', N', R'⟩ => by rw [e, e']; exact h2 h tk IT vs n F' N' R') fun _ _ x => x) hs
theorem TupsV.get {h : Heap} {vs : List Value} {os : List (List Int)} (x : TupsV h vs os) : ∀ {i : Nat} {v : Value}, vs[i]? = some v → ∃ a c, v = .ref a ∧ TupInts h a c ∧ c ∈ os := by
  induction x with
  | nil => intro i v e; cases e
  | cons t r ih =>
    intro i v e
    cases i with
    | zero => cases e; exact ⟨_, _, rfl, t, .head _⟩
    | succ i => obtain ⟨a, c, e1, e2, e3⟩ := ih (i := i) (by simpa using e); exact ⟨a, c, e1, e2, .tail _ e3⟩
theorem pin_tv {g h : Heap} {L : Addr} {m : Str → Option Value} {vs : List Value} {os : List (List Int)} (F : Fr g L h m) (x : TupsV h vs os) : Pinned g L h fun h => TupsV h vs os := by
  induction x with
  | nil => exact pin_true.imp fun _ _ => .nil
  | cons t r ih => exact ((pin_tupi F t).and ih).imp fun _ z => .cons z.1 z.2
theorem news_cons7 {g h : Heap} {L D : Addr} {o : Obj} {news : List (Addr × Obj)} (e : h.get? D = some o) (hL : D ≠ L) (hg : g.get? D = none) (N : News g L h news) : News g L h ((D, o) :: news) := fun q m => (List.mem_cons.mp m).elim (fun z => z ▸ ⟨e, hL, hg⟩) (N q)
theorem eval_compLM {prog : Program} {w : World} {A : Around} {E : Value → Shared → Prop} {s : Shared} {env : Env} {g : Heap} {L : Addr} {m : Str → Option Value} {news : List (Addr × Obj)} {elt iter : Expr} {x : Str} {px : Pos} {ifs : List Expr} {scope : Scope} {cl : List (Str × Addr)} {pos : Pos} {Q : Value → Shared → Prop}
    (F : Fr g L s.heap m) (N : News g L s.heap news) (R : Heap → Addr → List Value → Prop) (h1 : wpAny (model prog w) A (eval iter env) (LsT g L m news s R) E s)
    (h2 : ∀ h tk IT vs n, Fr g L h m → News g L h ((IT, listOf (List.toArray vs) n) :: news) → R h IT vs → wpAny (model prog w) A (pyIter (.ref IT)) (fun it s₂ => CompAtM prog w A env scope cl x ifs elt (EvFin Q s₂) it s₂) E { s with heap := h, toks := tk })
    (hclos : closureFor scope env = pure cl) (hcell : ∀ y ∈ scope.names, y.2 ≠ .cell) (hkind : scope.kind = .function)
    (hnames : ∀ y ∈ scope.names, y.2 = .local → scope.names.lookup y.1 = some .local) (hx : scope.names.lookup x = some .local)
    (hs : ∀ x, foldedSetIterable iter env x = pure x := by intro _; rfl) :
    wpAny (model prog w) A (eval (.ListComp elt [⟨.Name x px, iter, ifs, 0⟩] scope pos) env) Q E s :=
  eval_compM hclos hcell hkind hnames hx (wpAny_mono h1 (fun v s₁ ⟨h, tk, IT, vs, n, e, e', F', N', R'⟩ => by rw [e, e']; exact h2 h tk IT vs n F' N' R') fun _ _ x => x) hs
theorem kept_fr {g h h' : Heap} {L : Addr} {m : Str → Option Value} {W : List Addr} {eI : Env} {outer : List Env} (K : Kept h W (eI :: outer) h') (hI : eI.frame = some L) (hW : ∀ a ∈ W ++ Frs outer, g.get? a = none) (F : Fr g L h m) : Fr g L h' m := by
  obtain ⟨o, es, ep, ho, r⟩ := F.ns
  obtain ⟨sl, e1⟩ := K.slots L (by rw [frs_push hI]; exact .head _) o ho
  refine ⟨⟨_, es, ep, e1, r⟩, fun b o q => K.keep b o (fun mm => ?_) (F.keep _ _ q), F.above⟩
  rw [frs_push hI] at mm
  rcases List.mem_append.mp mm with z | z
  · rw [hW b (List.mem_append_left _ z)] at q; cases q
  · rcases List.mem_cons.mp z with z | z
    · subst z; exact absurd (Heap.lt_size q) (Nat.not_lt.mpr F.above)
    · rw [hW b (List.mem_append_right _ z)] at q; cases q
theorem kept_led {g h h' : Heap} {L Lw : Addr} {W : List Addr} {eI eL : Env} {o : Obj} {pre post : List (Addr × Obj)} (K : Kept h W [eI, eL] h') (hI : eI.frame = some L) (hLw : eL.frame = some Lw) (N : News g L h (pre ++ (Lw, o) :: post)) (hp : ∀ q ∈ pre ++ post, q.1 ≠ Lw ∧ q.1 ∉ W) : ∃ sl, News g L h' (pre ++ (Lw, { o with slots := sl }) :: post) := by
  have hfr : Frs [eI, eL] = [L, Lw] := by rw [frs_push hI, frs_push hLw]; rfl
  have e0 := N (Lw, o) (List.mem_append_right _ (.head _))
  obtain ⟨sl, e1⟩ := K.slots Lw (by rw [hfr]; simp) o e0.1
  have kp : ∀ q ∈ pre ++ post, (q ∈ pre ++ (Lw, o) :: post) → h'.get? q.1 = some q.2 ∧ q.1 ≠ L ∧ g.get? q.1 = none := fun q hq hm => by
    have := N q hm
    refine ⟨K.keep _ _ (fun mm => ?_) this.1, this.2⟩
    rw [hfr] at mm
    rcases List.mem_append.mp mm with z | z
    · exact (hp q hq).2 z
    · rcases List.mem_cons.mp z with z | z
      · exact this.2.1 z
      · exact (hp q hq).1 (List.mem_singleton.mp z)
  refine ⟨sl, fun q hq => ?_⟩
  rcases List.mem_append.mp hq with hq | hq
  · exact kp q (List.mem_append_left _ hq) (List.mem_append_left _ hq)
  · rcases List.mem_cons.mp hq with rfl | hq
    · exact ⟨e1, e0.2⟩
    · exact kp q (List.mem_append_right _ hq) (List.mem_append_right _ (.tail _ hq))
theorem frs_one {h : Heap} {eL : Env} {Lw : Addr} {o : Obj} (hk : eL.scope.kind ≠ .module) (hf : eL.frame = some Lw) (ho : h.get? Lw = some o) (hd : ∀ vs, o.data ≠ .fields vs) : FrsOk h [eL] := ⟨hk, ⟨Lw, o, hf, hideAll_none _ (by rw [frs_push hf]; exact .head _), ho, hd⟩, trivial⟩
theorem none_ne {prog : Program} {w : World} {A : Around} {E Q : Value → Shared → Prop} {s : Shared} (h : Q (.bool false) s) : wpAny (model prog w) A (compareOp .NotEq .none .none) Q E s := PySem.SeqAt.RcNeAt.none_none prog w E Q h
theorem news_drop2 {g h : Heap} {L : Addr} {a b : Addr × Obj} {l : List (Addr × Obj)} (N : News g L h (a :: b :: l)) : News g L h (a :: l) := fun q m => (List.mem_cons.mp m).elim (fun z => z ▸ N _ (.head _)) fun m => N q (.tail _ (.tail _ m))
theorem news_app {g h : Heap} {L : Addr} {a x : List (Addr × Obj)} (N : News g L h a) (X : News g L h x) : News g L h (a ++ x) := fun q m => (List.mem_append.mp m).elim (N q) (X q)
theorem StepsAt.fr {g h : Heap} {L : Addr} {m : Str → Option Value} {as : List Addr} {cls : List (List Int)} (x : StepsAt g as cls) (F : Fr g L h m) : StepsAt h as cls := ⟨x.len, fun i a c h1 h2 => let ⟨rv, ca, pv, nv, t, vs, iv, u⟩ := x.at_ i a c h1 h2; ⟨rv, ca, pv, nv, F.tup t, vs, iv, F.tup u⟩⟩
theorem PairsV.fr {g h : Heap} {L : Addr} {m : Str → Option Value} {vs : List Value} {ps : List (Int × Int)} (x : PairsV g vs ps) (F : Fr g L h m) : PairsV h vs ps := ⟨x.1, fun i p hp => let ⟨q, t, u, e, ht⟩ := x.2 i p hp; ⟨q, t, u, e, F.tup ht⟩⟩
theorem kept_end {g h h' : Heap} {L st pr dp Lw : Addr} {m : Str → Option Value} {eL : Env} {o1 oLw : Obj} {sl : Array (Option Value)} (hg : g = hideAll h [st, pr, dp, Lw]) (F : Fr g L h' m) (h1 : h.get? pr = some o1) (h1' : h'.get? pr = some o1) (hLw : eL.frame = some Lw) (e : h.get? Lw = some oLw) (e' : h'.get? Lw = some { oLw with slots := sl }) : Kept h [st, dp] [eL] h' := by
  have hf : Frs [eL] = [Lw] := by rw [frs_push hLw]; rfl
  refine ⟨fun b o n q => ?_, fun a ha o q => ?_⟩
  · rw [hf] at n
    by_cases z : b = pr
    · rw [z] at q ⊢
      rw [h1] at q
      cases q
      exact h1'
    · exact F.keep b o (hide1 hg q fun mm => by
        simp only [List.mem_cons, List.not_mem_nil, or_false, List.mem_append, not_or] at mm n
        rcases mm with mm | mm | mm | mm
        · exact n.1.1 mm
        · exact z mm
        · exact n.1.2 mm
        · exact n.2 mm)
  · rw [hf] at ha
    rw [List.mem_singleton.mp ha] at q ⊢
    rw [e] at q
    cases q
    exact ⟨sl, e'⟩
def TupO (o : Obj) : Prop := o.cls = .type "tuple" ∧ ∃ vs n, o.data = .seq vs n
/-- pinned, by tuples alone -/
inductive PinnedT (g : Heap) (L : Addr) (h : Heap) (P : Heap → Prop) : Prop
  | mk : ∀ (x), News g L h x → (∀ q ∈ x, TupO q.2) → (∀ h' m', Fr g L h' m' → News g L h' x → P h') → PinnedT g L h P
theorem PinnedT.and {g h : Heap} {L : Addr} {P Q : Heap → Prop} (p : PinnedT g L h P) (q : PinnedT g L h Q) : PinnedT g L h (fun h => P h ∧ Q h) :=
  let ⟨x, n, a, f⟩ := p; let ⟨y, k, b, e⟩ := q
  ⟨x ++ y, fun r m => (List.mem_append.mp m).elim (n r) (k r), fun r m => (List.mem_append.mp m).elim (a r) (b r), fun h' m' F N => ⟨f h' m' F fun r m => N r (List.mem_append_left _ m), e h' m' F fun r m => N r (List.mem_append_right _ m)⟩⟩
theorem PinnedT.imp {g h : Heap} {L : Addr} {P Q : Heap → Prop} (p : PinnedT g L h P) (i : ∀ h, P h → Q h) : PinnedT g L h Q := let ⟨x, n, a, f⟩ := p; ⟨x, n, a, fun h' m' F N => i h' (f h' m' F N)⟩
theorem pinT_tup {g h : Heap} {L a : Addr} {m : Str → Option Value} {vs : Array Value} (F : Fr g L h m) (t : IsTup h a vs) : PinnedT g L h fun h => IsTup h a vs := by
  obtain ⟨o, ho, hc, n, hd⟩ := t
  cases q : g.get? a with
  | some o' =>
    have e := F.keep _ _ q
    rw [ho] at e
    cases e
    exact ⟨[], fun _ m => (nomatch m), fun _ m => (nomatch m), fun h' m' F' _ => ⟨o, F'.keep _ _ q, hc, n, hd⟩⟩
  | none =>
    refine ⟨[(a, o)], fun r mm => ?_, fun r mm => by rw [List.mem_singleton.mp mm]; exact ⟨hc, vs, n, hd⟩, fun h' m' _ N => ⟨o, (N _ (.head _)).1, hc, n, hd⟩⟩
    rw [List.mem_singleton.mp mm]
    refine ⟨ho, fun e => ?_, q⟩
    obtain ⟨oL, es, ep, eL, dL, _⟩ := F.ns
    rw [← show a = L from e, ho] at eL
    cases eL
    rw [hd] at dL
    cases dL
theorem pinT_tupi {g h : Heap} {L a : Addr} {m : Str → Option Value} {xs : List Int} (F : Fr g L h m) (t : TupInts h a xs) : PinnedT g L h fun h => TupInts h a xs := let ⟨vs, iv, t⟩ := t; (pinT_tup F t).imp fun _ t => ⟨vs, iv, t⟩
theorem pinT_row {g h : Heap} {L a : Addr} {m : Str → Option Value} {d ps vs : List Int} (F : Fr g L h m) (t : RowAt h a d ps vs) : PinnedT g L h fun h => RowAt h a d ps vs :=
  let ⟨da, pra, vra, tr, t, u, v, z⟩ := t; ((pinT_tup F t).and ((pinT_tupi F u).and ((pinT_tupi F v).and (pinT_tupi F z)))).imp fun _ t => ⟨da, pra, vra, tr, t.1, t.2.1, t.2.2.1, t.2.2.2⟩
section
open PySem.SeqAt (EqAt RcAt RcNeAt)
variable {A : Around} {s : Shared} {a b : Addr} {vs : List Value}
theorem all_true (n : Nat) : (List.range n).all (fun _ => true) = true := by simp
theorem eq_same {prog : Program} {w : World} {E Q : Value → Shared → Prop} (ha : s.heap.IsList a vs.toArray) (hb : s.heap.IsList b vs.toArray) (hu : A.units < cLine) (h : Q (.bool true) s) : wpAny (model prog w) A (compareOp .Eq (.ref a) (.ref b)) Q E s :=
  eq_listP ha hb hu true (fun _ => ⟨fun _ => true, all_true _, fun j p q => EqAt.same _⟩) (fun n => absurd rfl n) h
theorem snoc_at {x y : Value} (e : EqAt A s x y true) : ∀ j (p : j < (vs ++ [x]).length) (q : j < (vs ++ [y]).length), EqAt A s (vs ++ [x])[j] (vs ++ [y])[j] true := fun j p q => by
  by_cases z : j < vs.length
  · rw [List.getElem_append_left z, List.getElem_append_left z]
    exact EqAt.same _
  · rw [List.getElem_append_right (Nat.le_of_not_lt z), List.getElem_append_right (Nat.le_of_not_lt z), List.getElem_singleton, List.getElem_singleton]
    exact e
theorem eq_snoc {prog : Program} {w : World} {E Q : Value → Shared → Prop} {x y : Value} (ha : s.heap.IsList a (vs ++ [x]).toArray) (hb : s.heap.IsList b (vs ++ [y]).toArray) (hu : A.units < cLine) (e : EqAt A.in1 s x y true) (h : Q (.bool true) s) : wpAny (model prog w) A (compareOp .Eq (.ref a) (.ref b)) Q E s :=
  eq_listP ha hb hu true (fun _ => ⟨fun _ => true, all_true _, snoc_at e⟩) (fun n => absurd (by rw [List.length_append, List.length_append]; rfl) n) h
theorem ne_snoc {prog : Program} {w : World} {E Q : Value → Shared → Prop} {x y : Value} (ha : s.heap.IsList a (vs ++ [x]).toArray) (hb : s.heap.IsList b (vs ++ [y]).toArray) (hu : A.units < cLine) (e : EqAt A.in1 s x y true) (h : Q (.bool false) s) : wpAny (model prog w) A (compareOp .NotEq (.ref a) (.ref b)) Q E s :=
  ne_listP ha hb hu true (fun _ => ⟨fun _ => true, all_true _, snoc_at e⟩) (fun n => absurd (by rw [List.length_append, List.length_append]; rfl) n) h
end
theorem news_also {g h : Heap} {L : Addr} {q : Addr × Obj} {news l : List (Addr × Obj)} (N : News g L h news) (hm : q ∈ news) (M : News g L h l) : News g L h (q :: l) := fun r m => (List.mem_cons.mp m).elim (fun e => e ▸ N _ hm) (M r)
theorem eqat_rowE {A : Around} {s : Shared} {a b da pra vra db prb vrb : Addr} {d pr vr : List Int} {tr tr' : Tok} {k : Str} (hu : A.units + 1 < cLine)
    (ha : IsTup s.heap a (List.toArray [.str k tr, .ref da, .ref pra, .ref vra])) (hb : IsTup s.heap b (List.toArray [.str k tr', .ref db, .ref prb, .ref vrb]))
    (h1 : TupInts s.heap da d) (h2 : TupInts s.heap pra pr) (h3 : TupInts s.heap vra vr) (g1 : TupInts s.heap db d) (g2 : TupInts s.heap prb pr) (g3 : TupInts s.heap vrb vr) :
    PySem.SeqAt.EqAt A s (.ref a) (.ref b) true := by
  by_cases e : a = b
  · subst e; exact PySem.SeqAt.EqAt.same _
  · exact eqat_row hu e ha hb h1 h2 h3 g1 g2 g3 rfl rfl rfl
theorem tupO_not {h : Heap} {a b : Addr} {o : Obj} (t : TupO o) (e : h.get? a = some o) (n : ∀ us, ¬ IsTup h b us) : a ≠ b := fun z => let ⟨hc, vs, k, hd⟩ := t; n vs (z ▸ ⟨o, e, hc, k, hd⟩)
theorem tupO_no {h : Heap} {a b : Addr} {o : Obj} (t : TupO o) (e : h.get? a = some o) (n : NoTup h b) : a ≠ b := fun z => let ⟨hc, vs, k, hd⟩ := t; let ⟨o', e', n'⟩ := n; by rw [z, e'] at e; cases e; exact n' _ _ hd hc
theorem notup4 {g h : Heap} {L Lw pr dp st nm : Addr} {m : Str → Option Value} {o : Obj} {as : List Addr} {em : Int} (F : Fr g L h m) (e : h.get? Lw = some o) (hd : ∀ vs n, o.data ≠ .seq vs n) (P : ProofAt h pr dp st nm as em) :
    ∀ b ∈ [L, Lw, st, dp], ∀ us, ¬ IsTup h b us := fun b hb us tu => by
  rcases List.mem_cons.mp hb with rfl | hb
  · obtain ⟨o, ho, _, n, hd⟩ := tu
    obtain ⟨o', es', ep', ho', hd', _⟩ := F.ns
    rw [ho] at ho'; cases ho'; rw [hd] at hd'; cases hd'
  rcases List.mem_cons.mp hb with rfl | hb
  · obtain ⟨o', ho', _, n, hd'⟩ := tu
    rw [e] at ho'; cases ho'; exact hd _ _ hd'
  · exact proof_notup P b hb us tu
theorem take_snoc (as : List Addr) (ra : Addr) (bs : List Addr) : slicePick (List.map Value.ref (as ++ ra :: bs)).toArray none (some ((as.length : Nat) + 1 : Int)) none = (as.map Value.ref ++ [Value.ref ra]).toArray := by
  rw [show ((as.length : Nat) + 1 : Int) = ((as.length + 1 : Nat) : Int) from rfl, slicePick_upto']
  congr 1
  show List.take (as.length + 1) (List.map Value.ref (as ++ ra :: bs)) = _
  rw [List.map_append, List.map_cons, List.take_append, List.take_of_length_le (by rw [List.length_map]; omega), List.length_map, show as.length + 1 - as.length = 1 by omega, List.take_succ_cons, List.take_zero]
theorem frs_two {eI eL : Env} {L Lw : Addr} (hI : eI.frame = some L) (hLw : eL.frame = some Lw) : Frs [eI, eL] = [L, Lw] := by rw [frs_push hI, frs_push hLw]; rfl
theorem kept_keep {h h' : Heap} {W : List Addr} {eI eL : Env} {L Lw : Addr} (K : Kept h W [eI, eL] h') (hI : eI.frame = some L) (hLw : eL.frame = some Lw) : Keep (L :: Lw :: W) h h' := fun b o n q => K.keep b o (fun m => by
  rw [frs_two hI hLw] at m
  rcases List.mem_append.mp m with m | m
  · exact n (.tail _ (.tail _ m))
  rcases List.mem_cons.mp m with e | m
  · exact n (e ▸ .head _)
  · exact n (List.mem_singleton.mp m ▸ .tail _ (.head _))) q
theorem kept_ledA {g h h' : Heap} {L Lw : Addr} {W : List Addr} {eI eL : Env} {o : Obj} {pre post : List (Addr × Obj)} (K : Kept h W [eI, eL] h') (hI : eI.frame = some L) (hLw : eL.frame = some Lw) (N : News g L h (pre ++ (Lw, o) :: post)) (hp : ∀ a ∈ pre.map Prod.fst, a ≠ Lw ∧ a ∉ W) (hq : ∀ q ∈ post, q.1 ≠ Lw ∧ q.1 ∉ W) : ∃ sl, News g L h' (pre ++ (Lw, { o with slots := sl }) :: post) :=
  kept_led K hI hLw N (all_app (all_of_fst hp) hq)
theorem ne_gv {prog : Program} {w : World} {A : Around} {E Q : Value → Shared → Prop} {s : Shared} {ps : List (Int × Int)} {first : Int} {tf : Tok} (h : Q (.bool false) s) : wpAny (model prog w) A (compareOp .NotEq (gvOf ps first tf) (gvOf ps first tf)) Q E s := by
  unfold gvOf
  split
  · refine PyProof.Rows.ne_int ?_
    rw [bne_self_eq_false]
    exact h
  · exact none_ne h
theorem tup_hide {g h : Heap} {W : List Addr} {a : Addr} {vs : Array Value} (hg : g = hideAll h W) (n : ∀ o, h.get? a = some o → o.cls = .type "tuple" → a ∉ W) (t : IsTup h a vs) : IsTup g a vs := let ⟨o, ho, r⟩ := t; ⟨o, hide1 hg ho (n o ho r.1), r⟩
end SChdA
theorem word41 : True := by
  k_with_none
  k_with "call builtin:len" => (k_here; (with_reducible show wpAny _ _ (call (Value.builtin "len") [Value.ref _]) _ _ _); (with_unfolding_all refine' len_tupI ?k1 ?k2 ?k3 ?_; (case k1 => first | assumption | exact Fr.tup (by assumption) (by assumption)); (case k2 => l_ints); (case k3 => l_fit); k_whole))
  k_with "call builtin:len" => (k_here; (with_reducible show wpAny _ _ (call (Value.builtin "len") [Value.ref _]) _ _ _); (with_unfolding_all refine' len_lst ?k1 ?k3 ?_; (case k1 => exact News.isList (by k_asm) (by k_mem)); (case k3 => (simp only [List.length_map]; omega)); k_whole))
  k_with "subscriptTail" => (k_here; (with_reducible show wpAny _ _ (subscriptTail _ _ (Value.ref _) (Value.int _ _)) _ _ _); (with_unfolding_all refine' item_tuple_ints ?k1 ?k2 ?k3 ?k4 ?k5 ?_ ?k6 ?k7; (case k1 => first | assumption | exact Fr.tup (by assumption) (by assumption)); (case k2 => l_ints); (case k3 => omega); (case k4 => omega); (case k5 => omega); (case k6 => with_unfolding_all rfl); (case k7 => (intro _; with_unfolding_all rfl)); k_whole); intro _)
  k_with "subscriptTail" => (k_here; (with_reducible show wpAny _ _ (subscriptTail _ _ (Value.ref _) (Value.int _ _)) _ _ _); (with_unfolding_all refine' item_listR ?k1 ?k2 ?k3 ?k4 ?_ ?k6; (case k4 => assumption); (case k1 => exact News.isList (by k_asm) (by k_mem)); (case k2 => omega); (case k3 => omega); (case k6 => with_unfolding_all rfl); k_whole))
  k_with "exec For Name Name cons nil" => (k_here; (rename Fr _ _ _ _ => lF'); (with_unfolding_all refine' for_walksF lF' ?k1 ?k2 ?_; (case k1 => exact rfl); (case k2 => exact rfl); k_whole))
  k_with "exec For Name Call cons nil" => (k_here; (rename Fr _ _ _ _ => lF'); (with_unfolding_all refine' for_walksF lF' ?k1 ?k2 ?_; (case k1 => exact rfl); (case k2 => exact rfl); k_whole))
  trivial
section SChd
theorem word42 : True := by
  k_with "getAttr ref" => (k_here; k_dflt (refine' get_own ?k1 ?k2 ?k3 ?k4 ?k5 ?k6 ?k7 ?k8 ?k9 ?_; (case k1 => k_asm); (case k2 => k_asm); (case k3 => exact inst_base (by k_asm) (by assumption) (by assumption)); (case k4 => k_is); (case k5 => k_is); (case k6 => k_is); (case k7 => k_is); (case k8 => assumption); (case k9 => k_handed); k_whole))
  k_with "getMethod ref" => (k_here; k_dflt (refine' method_inst ?k1 ?k2 ?k3 ?k4 ?k5 ?k6 ?k7 ?_; (case k1 => k_asm); (case k2 => k_asm); (case k3 => exact inst_base (by k_asm) (by assumption) (by assumption)); (case k4 => k_is); (case k5 => k_is); (case k6 => k_is); (case k7 => assumption); k_whole))
  k_with "unpackItems ref" => (k_here; k_dflt (refine' unpackItemsN_ ?k1 ?k2 ?k3 ?k4 ?k5 ?_; (case k1 => k_asm); (case k2 => k_asm); (case k3 => kun_tup); (case k4 => assumption); (case k5 => exact rfl); k_whole); intro h' F' N'; (try k_sweep))
  k_with "eval ListComp" => (k_here; with_reducible refine hold_on ?_)
  k_with "compareOp Eq ref ref" => (k_here; with_reducible refine hold_on ?_)
  k_with "compareOp NotEq ref ref" => (k_here; with_reducible refine hold_on ?_)
  k_with "eval IfExp" => (k_here; with_reducible refine hold_on ?_)
  k_with "isTrue BoolOp" => (k_here; (with_reducible show wpAny _ _ (isTrue (.BoolOp .Or (.Compare (.Name (Str.ofString "pairs") _) _ _ _ :: _) _) _ _) _ _ _); with_reducible refine hold_on ?_)
  trivial
/-- between two turns over the late clauses: nothing made, the frame of the law's caller may have other slots -/
inductive ChJ0 (F : Array (Option Value) → List (Addr × Obj)) (ys : List Value) (news : List (Addr × Obj)) : Prop
  | mk (sl : Array (Option Value)) : ys = [] → news = F sl → ChJ0 F ys news
inductive ChTups (n : Nat) (h : Heap) (vs : List Value) : Prop
  | mk (os : List (List Int)) : TupsV h vs os → vs.length ≤ n → ChTups n h vs
inductive ChLate (cc : List Int) (W : List Addr) (h : Heap) (IT : Addr) (vs : List Value) : Prop
  | mk (os : List (List Int)) : TupsV h vs os → vs.length ≤ 5 → (∀ o ∈ os, o ≠ cc) → IT ∉ W → ChLate cc W h IT vs
inductive ChHead (g : Heap) (cls : List (List Int)) (first : Int) (ps : List (Int × Int)) (due : Value) (c1 : List Int) : Prop
  | mk (cc : List Int) : Tid cc → (due = .none → chainP cls (some (cls.getD first.toNat [])) ps = none ∧ cc = c1) → (∀ a, due = .ref a → chainP cls (some (cls.getD first.toNat [])) ps = some cc ∧ TupInts g a cc) → ChHead g cls first ps due c1
inductive ChJ (g : Heap) (L Lw : Addr) (oLw : Obj) (pr dp st nm ra : Addr) (as : List Addr) (cc prs vrs : List Int) (F : List (Addr × Obj) → List (Addr × Obj)) (k : Nat) (ys : List Value) (news : List (Addr × Obj)) : Prop
  | mk (sl : Array (Option Value)) (bs : List Addr) (ds : List (List Int)) (n : Nat) (a1 a2 a3 : Int) (t1 t2 t3 t4 : Tok) (em : Int) (x : List (Addr × Obj)) : ys = [] → news = F ((Lw, { oLw with slots := sl }) :: (ledP pr dp st nm (as ++ ra :: bs) n a1 a2 a3 t1 t2 t3 t4 em ++ x)) → bs.length ≤ k → (∀ c ∈ ds, Tid c) → (∀ q ∈ x, TupO q.2) →
    (∀ h' m', Fr g L h' m' → News g L h' x → RowAt h' ra cc prs vrs ∧ StepsAt h' bs ds) → ChJ g L Lw oLw pr dp st nm ra as cc prs vrs F k ys news
theorem ch_seq {h : Heap} {st pr dp Lw a : Addr} {us : Array Value} {n0 k0 : Nat} {esL : Array DictEntry} {epL : Nat} {ld : List DictEntry} {oLw o : Obj} {vs : Array Value} {n : Nat} (h1 : h.get? st = some (listOf us n0)) (h2 : h.get? pr = some (instObj 705 dp)) (h3 : h.get? dp = some (dictOf ld k0)) (h4 : h.get? Lw = some oLw) (hd4 : oLw.data = .dict esL epL)
    (ho : h.get? a = some o) (hd : o.data = .seq vs n) (hc : o.cls = .type "tuple" ∨ a ≠ st) : a ∉ [st, pr, dp, Lw] :=
  notin_cons (fun e => hc.elim (fun c => by rw [e, h1] at ho; cases ho; exact absurd (show Value.type "list" = Value.type "tuple" from c) (by decide)) fun n => n e)
    (notin_cons (fun e => by rw [e, h2] at ho; cases ho; cases hd) (notin_cons (fun e => by rw [e, h3] at ho; cases ho; cases hd) (notin_cons (fun e => by rw [e, h4] at ho; cases ho; rw [hd] at hd4; cases hd4) notin_nil)))
theorem ch_inst {h : Heap} {st pr dp Lw a C dx : Addr} {us : Array Value} {n0 k0 : Nat} {esL : Array DictEntry} {epL : Nat} {ld : List DictEntry} {oLw : Obj} (h1 : h.get? st = some (listOf us n0)) (h2 : h.get? pr = some (instObj 705 dp)) (h3 : h.get? dp = some (dictOf ld k0)) (h4 : h.get? Lw = some oLw) (hd4 : oLw.data = .dict esL epL)
    (ho : h.get? a = some (instObj C dx)) (hC : C ≠ 705) : a ∉ [st, pr, dp, Lw] :=
  notin_cons (fun e => by rw [e, h1] at ho; cases ho) (notin_cons (fun e => by rw [e, h2] at ho; cases ho; exact hC rfl) (notin_cons (fun e => by rw [e, h3] at ho; cases ho) (notin_cons (fun e => by rw [e, h4] at ho; cases ho; cases hd4) notin_nil)))
theorem ch_head {g : Heap} {cls : List (List Int)} {first : Int} {ps : List (Int × Int)} {due : Value} {c1 : List Int} {h : Heap} (hv : HereAt h due (chainP cls (some (cls.getD first.toNat [])) ps)) (hf4 : cls.getD first.toNat [] = c1) (t1 : Tid c1) (hT : ∀ {a vs}, IsTup h a vs → IsTup g a vs) (tid : ∀ c ∈ cls, Tid c) : ChHead g cls first ps due c1 := by
  cases o : chainP cls (some (cls.getD first.toNat [])) ps with
  | none =>
    rw [o] at hv
    obtain rfl : due = .none := hv
    exact ⟨c1, t1, fun _ => ⟨o, rfl⟩, fun a e => by cases e⟩
  | some ws =>
    rw [o] at hv
    obtain ⟨a, rfl, vs, iv, tv⟩ := hv
    have o' := o
    rw [hf4] at o'
    exact ⟨ws, chainP_tid ps t1 o', (fun e => by cases e), fun b e => by cases e; exact ⟨o, vs, iv, hT tv⟩⟩
theorem lh_u {u k : Nat} (h : u ≤ 3900) (hk : k ≤ 10) : u + k < 9900 := by omega
theorem lh_n {n b v k : Nat} (h : n < 150) (hb : b ≤ k) (hk : k < v) (hv : v ≤ 5) : n + (b + 1) < 190 := by omega
theorem lh_f {f : Int} {n k : Nat} (h : f < (n : Int)) : f < ((n + k : Nat) : Int) := by omega
theorem lh_t {n k : Nat} (h : n < 10) (e : k = n) : [(0 : Nat)].length + k ≤ 16384 := by simp only [List.length_cons, List.length_nil]; omega
section
variable {w : World} {mean : ExcName → Option Value} {mg mb : Str → Option Value} {B : Heap} {s : Shared} {Q E : Value → Shared → Prop} {core dc plain dq pr dp st nm pa Lw : Addr} {as : List Addr} {em : Int} {cls : List (List Int)} {ps : List (Int × Int)}
theorem chained_c {A : Around} {eL : Env} (X : (Mine.hd.heap_39 w.params).In B) (T : Tp mean mg mb B) (hB : B.StaysIn s.heap) (hfr : A.frames = some [eL]) (hA : A.depth < 450) (hU : A.units ≤ 3900) (hh : A.handled = none) (FO : FrsOk s.heap [eL]) (hLw : eL.frame = some Lw) (hns : ∃ m, s.heap.Ns Lw m)
    (SA : SearchAt s.heap core dc (.ref pr)) (SB : SearchAt s.heap plain dq .none) (hdc : dc ∉ [st, pr, dp, Lw]) (hdq : dq ∉ [st, pr, dp, Lw]) (P : ProofAt s.heap pr dp st nm as em) (hO : ∀ a ∈ [st, pr, dp, Lw], B.get? a = none) (hLwP : Lw ∉ [st, pr, dp]) (S : StepsAt s.heap as cls) (hlen : as.length < 150) (tid : ∀ c ∈ cls, Tid c)
    (hPA : PairsAt s.heap pa ps) (hpa : pa ≠ st) (hpl : ps.length < 10) (hps : ∀ p ∈ ps, 1 ≤ p.1 ∧ p.1 ≤ 5 ∧ 0 ≤ p.2 ∧ p.2 < as.length) {first : Int} {tf : Tok} (hf0 : 0 ≤ first) (hf1 : first < as.length) {due : Value} (hv : HereAt s.heap due (chainP cls (some (cls.getD first.toNat [])) ps))
    (hret : ∀ h' tk bs ds em', Kept s.heap [st, dp] [eL] h' → ProofAt h' pr dp st nm (as ++ bs) em' → StepsAt h' (as ++ bs) (cls ++ ds) → (∀ c ∈ ds, Tid c) → bs.length ≤ 7 → Q (.bool true) { s with heap := h', toks := tk }) :
    wpAny (model PySem.Challenge.rw_rg0222_01.row.prog w) A (call (.ref 749) [.ref core, .ref plain, .int first tf, .ref pa, due]) Q E s := by
  have hroom : A.depth < recursionLimit := Nat.lt_of_lt_of_le hA (Nat.le_of_ble_eq_true rfl)
  have hd69 : A.depth + 1 ≤ 690 := Nat.le_trans hA (Nat.le_of_ble_eq_true rfl)
  have hd70 : A.depth + 1 ≤ 700 := Nat.le_trans hA (Nat.le_of_ble_eq_true rfl)
  have hd48 : A.depth + 1 < 480 := Nat.le_trans (Nat.succ_le_succ hA) (Nat.le_of_ble_eq_true rfl)
  have hu50 : A.units + 3 ≤ 5000 := Nat.le_trans (Nat.add_le_add_right hU 3) (Nat.le_of_ble_eq_true rfl)
  have hu49 : A.units + 3 ≤ 4900 := Nat.le_trans (Nat.add_le_add_right hU 3) (Nat.le_of_ble_eq_true rfl)
  have hu39 : A.units + 3 ≤ 3980 := Nat.le_trans (Nat.add_le_add_right hU 3) (Nat.le_of_ble_eq_true rfl)
  obtain ⟨d1, d2, d3⟩ := P.ne
  have e1 := neN d1
  have e2 := neN d2
  have e3 := neN d3
  obtain ⟨a1, a2, a3, t1, t2, t3, t4, hdp⟩ := P.dict
  obtain ⟨n0, hst⟩ := P.list
  have hpi := P.inst
  obtain ⟨mw, oLw, esw, epw, hoLw, hdLw, rLw⟩ := hns
  have hdue : due = .none ∨ ∃ a, due = .ref a := by
    cases o : chainP cls (some (cls.getD first.toNat [])) ps with
    | none => rw [o] at hv; exact .inl hv
    | some ws => rw [o] at hv; obtain ⟨a, e, _⟩ := hv; exact .inr ⟨a, e⟩
  refine wpAny_call ?_
  k_dflt (refine' enterC (binds := [(Str.ofString "core", .ref core), (Str.ofString "plain", .ref plain), (Str.ofString "first", .int first tf), (Str.ofString "pairs", .ref pa), (Str.ofString "due", due)]) [st, pr, dp, Lw] X T.nolimit hB hO ?k6 ?k7 ?k8 ?k9 ?kB ?kC ?_ ?c2 ?c3 ?c4; (case k6 => k_is); (case k7 => k_is); (case k8 => exact hroom); (case k9 => exact BindsTo.of_eq rfl); (case kB => exact rfl); (case kC => decide); (case c2 => exact rfl); (case c3 => exact rfl); (case c4 => exact rfl))
  intro g L h₁ tk₁ cells' hg hL F N Y hk₁ sg Xg
  have Tg := T.keeps sg
  have gO : ∀ a ∈ [st, pr, dp, Lw], g.get? a = none := fun a m => hg ▸ hideAll_none _ m
  have hLn : s.heap.get? L = none := hL ▸ Heap.get?_none_of_le (Nat.le_refl _)
  k_cells Y
  rename_i o1 o2 o3 o4 o5 dd1 dd2 dd3 dd4 dd5
  have ltL : ∀ a o, s.heap.get? a = some o → a < L := fun a o e => hL ▸ Heap.lt_size e
  have hstN := ltN (ltL _ _ hst)
  have hprN := ltN (ltL _ _ hpi)
  have hdpN := ltN (ltL _ _ hdp)
  have hLwN := ltN (ltL _ _ hoLw)
  have hw1 : @Ne Nat Lw st := neN fun e => hLwP (e ▸ .head _)
  have hw2 : @Ne Nat Lw pr := neN fun e => hLwP (e ▸ .tail _ (.head _))
  have hw3 : @Ne Nat Lw dp := neN fun e => hLwP (e ▸ .tail _ (.tail _ (.head _)))
  have gst := gO st (.head _)
  have gpr := gO pr (.tail _ (.head _))
  have gdp := gO dp (.tail _ (.tail _ (.head _)))
  have gLw := gO Lw (.tail _ (.tail _ (.tail _ (.head _))))
  have gP : ∀ a ∈ [st, pr, dp], g.get? a = none := all_cons gst (all_cons gpr (all_cons gdp all_nil))
  have N1 : News g L h₁ ((L + 1 + 1 + 1 + 1 + 1, o1) :: (L + 1 + 1 + 1 + 1, o2) :: (L + 1 + 1 + 1, o3) :: (L + 1 + 1, o4) :: (L + 1, o5) :: (ledP pr dp st nm as n0 a1 a2 a3 t1 t2 t3 t4 em ++ [(Lw, oLw)])) :=
    news_head N (news_head (news_tl N) (news_head (news_tl (news_tl N)) (news_head (news_tl (news_tl (news_tl N))) (news_head (news_tl (news_tl (news_tl (news_tl N))))
      (news_cons (hk₁ _ _ hst) (Nat.ne_of_lt hstN) gst (news_cons (hk₁ _ _ hpi) (Nat.ne_of_lt hprN) gpr (news_cons (hk₁ _ _ hdp) (Nat.ne_of_lt hdpN) gdp (news_cons (hk₁ _ _ hoLw) (Nat.ne_of_lt hLwN) gLw news_nil))))))))
  clear N
  have nSeq : ∀ a o vs n, s.heap.get? a = some o → o.data = .seq vs n → (o.cls = .type "tuple" ∨ a ≠ st) → a ∉ [st, pr, dp, Lw] := fun a o vs n ho hd hc => ch_seq hst hpi hdp hoLw hdLw ho hd hc
  have nPl : ∀ a C dx, s.heap.get? a = some (instObj C dx) → C ≠ 705 → a ∉ [st, pr, dp, Lw] := fun a C dx ho hC => ch_inst hst hpi hdp hoLw hdLw ho hC
  have hT : ∀ {a vs}, IsTup s.heap a vs → IsTup g a vs := fun {a vs} t => let ⟨o, ho, hc, n, hd⟩ := t; ⟨o, hide1 hg ho (nSeq a o vs n ho hd (.inl hc)), hc, n, hd⟩
  have ci := hide1 hg SA.inst (nPl _ _ _ SA.inst (by decide))
  obtain ⟨esA, nA, hdA, hpA, hlA⟩ := SA.dict
  have cd := hide1 hg hdA hdc
  have cpi := hide1 hg SB.inst (nPl _ _ _ SB.inst (by decide))
  obtain ⟨esB, nB, hdB, hpB, hlB⟩ := SB.dict
  have cpd := hide1 hg hdB hdq
  obtain ⟨vps, hlp, pv⟩ := id hPA
  have hlg : g.IsList pa vps.toArray := let ⟨o, ho, hc, n, hd⟩ := hlp; ⟨o, hide1 hg ho (nSeq _ _ _ _ ho hd (.inr hpa)), hc, n, hd⟩
  have pvg : PairsV g vps ps := ⟨pv.1, fun i p hp => let ⟨q, t, u, e, ht⟩ := pv.2 i p hp; ⟨q, t, u, e, hT ht⟩⟩
  have hlm : (List.map Value.ref as).length = as.length := List.length_map ..
  obtain ⟨f1, c1, rv1, ca1, pv1, nv1, hf2, hf3, hf4, hf5, hf6⟩ := S.get hf0 hf1
  refine wpAny_mono ?_ (fun _ _ h => h) (fun _ _ h => h)
  k_fold
  dsimp only [ledP, List.cons_append, List.nil_append] at N1
  obtain ⟨cc, tcc, hcN, hcS⟩ := ch_head (g := g) hv hf4 (tid c1 (List.mem_of_getElem? hf3)) hT tid
  k_steps
  rename Fr _ _ _ _ => F2
  rename News _ _ _ _ => N2
  unfold HoldOn
  refine join_cl F2 N2 cc ?_ ?_
  · rcases hdue with rfl | ⟨da, rfl⟩
    · obtain ⟨_, ecc⟩ := hcN rfl
      refine wpAny_IfExp ?_
      k_steps
      rename Fr _ _ _ _ => F3
      rename News _ _ _ _ => N3
      refine use_lo (clause_c Xg Tg (by exact F3.keep) (led_proof (news_upto 3 (news_from 6 N3))) gP (Nat.lt_trans hlen (by decide)) hf0 hf2 (F3.tup (hT hf5)) (tup_not P hf5) fun h4 tk4 k4 => ?_) hh (by exact hd70) (by exact hu50)
      exact ⟨_, _, ca1, rfl, rfl, fr_call0 F3 k4, news_call0 N3 k4, ecc ▸ (by cases hf6 with | mk vs iv t => exact ⟨vs, iv, hT t⟩)⟩
    · refine wpAny_IfExp ?_
      k_steps
      rename Fr _ _ _ _ => F3
      rename News _ _ _ _ => N3
      exact ⟨_, _, da, rfl, rfl, F3, N3, (hcS da rfl).2⟩
  · intro h3 tk3 cl F3 N3 tcl
    clear F2 N2
    k_steps
    rename Fr _ _ _ _ => F4
    rename News _ _ _ _ => N4
    have N5 := news_tail N4
    clear N4
    unfold HoldOn
    refine eval_compL F4 N5 (fun h _ vs => ChTups 6 h vs) ?_ (fun h5 tk5 IT vs n5 F5 N5 ⟨os, tv, lvs⟩ => ?_) (by with_unfolding_all rfl) (by decide) rfl (by decide) rfl
    · k_steps
      rename Fr _ _ _ _ => F6
      rename News _ _ _ _ => N6
      refine use_lo (others_c Xg Tg (by exact F6.keep) (tcl.fr F6) tcc.len tcc.ne fun h7 tk7 D7 vs7 os7 n7 k7 hD7 fD7 tv7 lv7 no7 => ?_) hh (by exact hd69) (by exact hu49)
      have F7 := fr_call0 F6 k7
      obtain ⟨x7, NX, back7⟩ := pin_tv F7 tv7
      have N7 := news_cons7 hD7 (fresh_neL F6 fD7) (fresh_of_stays F6.keep fD7) (news_app (news_call0 N6 k7) NX)
      clear F6 N6 NX
      dsimp only [List.cons_append, List.nil_append] at N7
      k_steps
      rename Fr _ _ _ _ => F8
      rename News _ _ _ _ => N8
      exact ⟨_, _, _, .ref cl :: vs7, 0, rfl, rfl, F8, (news_head N8 (news_upto _ (news_from 3 N8) : News g L _ (List.take 10 _))), cc :: os7,
        .cons (tcl.fr F8) (back7 _ _ F8 (news_from 13 N8)), Nat.succ_le_succ lv7⟩
    · clear F4
      refine comp_list (hh := hh) (.head _) (Nat.lt_of_le_of_lt lvs (by decide)) F5 N5 [] (fun _ m => nomatch m) (fun k ys news₁ => news₁ = _ ∧ ys = []) ⟨rfl, rfl⟩ ?_ ?_
      · rintro s₂ I2 es₂ up2 kk v C oC ys news₁ h tk m₂ hk hP ⟨rfl, rfl⟩ no hx F13 N13 hC hb hk2 hWC
        obtain ⟨a, c, rfl, hac, hcm⟩ := tv.get hP
        refine one_test ?_
        k_steps
        rename Fr _ _ _ _ => F14
        rename News _ _ _ _ => N14
        refine use_lo (log_plain_c Xg Tg (by exact F14.keep) ⟨F14.keep _ _ cpi, esB, nB, F14.keep _ _ cpd, hpB, hlB⟩ fun h9 tk9 k9 => ?_) hh (by exact hd69) (by exact hu49)
        have F15 := fr_call0 F14 k9
        have N15 := news_call0 N14 k9
        clear F14 N14
        (repeat (rename _ < _ ∧ _ < _ ∧ _ < _ ∧ _ => lx; clear lx))
        k_steps
        · exact absurd rfl (by assumption : first ≠ first)
        · rename Fr _ _ _ _ => F16
          rename News _ _ _ _ => N16
          exact ⟨h9, _, by rw [es₂], k9, _, F16, news_tail N16, hb, rfl, rfl⟩
      · rintro s₂ I2 D h' tk ys news₁ kk es₂ hgb hLs hD ⟨rfl, rfl⟩ hl F13 N13 hb
        unfold EvFin
        rw [es₂]
        clear F5 N5
        have lD := news_lt hD hb
        simp only [AllLt] at lD
        have N14 := news_drop2 N13
        clear N13
        k_steps
        rename Fr _ _ _ _ => F9
        rename News _ _ _ _ => N9
        have hu9 : ∀ k : Nat, k ≤ 10 → A.units + k < cLine := fun k hk => lh_u hU hk
        unfold HoldOn
        refine ne_nilP (vs := []) (N9.isList (.tail _ (.head _))) (N9.isList (.head _)) (hu9 3 (by decide)) ?_
        have N10 := news_tail (news_tail N9)
        clear N9
        k_steps
        rename Fr _ _ _ _ => F14
        rename News _ _ _ _ => N14
        obtain ⟨bf, hbf⟩ := name_head N14
        subst hbf
        have hdcp : dc ≠ dp := fun z => hdc (by rw [z]; simp)
        have hLbf : @LT.lt Nat _ L bf := Nat.lt_of_succ_lt (by assumption : L + 1 + 1 + 1 + 1 + 1 < bf ∧ L + 1 + 1 + 1 + 1 < bf ∧ L + 1 + 1 + 1 < bf ∧ L + 1 + 1 < bf ∧ L + 1 < bf ∧ _).2.2.2.2.1
        have SG : StepsAt g as cls := ⟨S.len, fun i a c h1 h2 => by cases S.at_ i a c h1 h2 with | mk rv ca pv nv t u => cases u with | mk vs iv u => exact ⟨rv, ca, pv, nv, hT t, vs, iv, hT u⟩⟩
        have hcL : ∀ a o, g.get? a = some o → a ≠ L := fun a o e z => by rw [z, hL] at e; exact absurd (Heap.lt_size (of_hideAll _ (hg ▸ e))) (Nat.lt_irrefl _)
        have hcF : ∀ eI : Env, eI.frame = some L → core ∉ Frs [eI, eL] ∧ dc ∉ Frs [eI, eL] := fun eI he => by
          rw [frs_two he hLw]
          exact ⟨notin_cons (hcL _ _ ci) (notin_cons (fun z => nPl _ _ _ SA.inst (by decide) (z ▸ .tail _ (.tail _ (.tail _ (.head _))))) notin_nil), notin_cons (hcL _ _ cd) (notin_cons (fun z => hdc (z ▸ .tail _ (.tail _ (.tail _ (.head _))))) notin_nil)⟩
        have hOF : ∀ eI : Env, eI.frame = some L → ∀ z ∈ Frs [eI, eL], g.get? z = none := fun eI he => by
          rw [frs_two he hLw]
          exact all_cons (Heap.get?_none_of_le F14.above) (all_cons gLw all_nil)
        have hFrI : ∀ eI : Env, eI.frame = some L → ∀ z ∈ Frs [eI, eL], z ∉ [st, pr, dp] := fun eI he => by
          rw [frs_two he hLw]
          exact all_cons (notin_cons (Nat.ne_of_gt hstN) (notin_cons (Nat.ne_of_gt hprN) (notin_cons (Nat.ne_of_gt hdpN) notin_nil))) (all_cons hLwP all_nil)
        have lO : ∀ a ∈ [st, pr, dp], a ≠ L := all_cons (Nat.ne_of_lt hstN) (all_cons (Nat.ne_of_lt hprN) (all_cons (Nat.ne_of_lt hdpN) all_nil))
        have lc1 : @LT.lt Nat _ L (L + 1) := Nat.lt_succ_self _
        have lc2 : @LT.lt Nat _ L (L + 1 + 1) := Nat.lt_succ_of_lt lc1
        have lc3 : @LT.lt Nat _ L (L + 1 + 1 + 1) := Nat.lt_succ_of_lt lc2
        have lc4 : @LT.lt Nat _ L (L + 1 + 1 + 1 + 1) := Nat.lt_succ_of_lt lc3
        have lc5 : @LT.lt Nat _ L (L + 1 + 1 + 1 + 1 + 1) := Nat.lt_succ_of_lt lc4
        unfold HoldOn
        have hvt : ps = [] → vps.isEmpty = true := fun e => by rw [List.isEmpty_iff_length_eq_zero, pv.1, e]; rfl
        have hvf : ps ≠ [] → vps.isEmpty = false := fun e => by
          cases vps with
          | nil => exact absurd (List.eq_nil_of_length_eq_zero pv.1.symm) e
          | cons => rfl
        by_cases hab : ps = [] ∨ due = .none
        · refine join_v (v0 := true) F14 N14 ?_ ?_
          · refine PyProof.Rows.isTrue_or ?_
            k_steps
            rename Fr _ _ _ _ => F15
            rename News _ _ _ _ => N15
            unfold HoldOn
            refine eq_nilP (fr_list F15 hlg) (N15.isList (.head _)) (hu9 3 (by decide)) ?_
            have N16 := news_tail N15
            clear N15
            by_cases hpe : ps = []
            · rw [hvt hpe]
              k_steps
              exact ⟨_, _, rfl, rfl, by assumption, N16⟩
            · rw [hvf hpe]
              obtain rfl : due = .none := hab.resolve_left hpe
              k_steps
              exact ⟨_, _, rfl, rfl, by assumption, N16⟩
          clear F14 N14
          intro h15 tk15 F15 N15
          k_steps
          rename Fr _ _ _ _ => F16
          rename News _ _ _ _ => N16
          unfold HoldOn
          refine join_v (v0 := gvOf ps first tf) F16 N16 ?_ ?_
          · refine wpAny_IfExp ?_
            k_steps
            rename Fr _ _ _ _ => F17
            rename News _ _ _ _ => N17
            unfold HoldOn
            refine eq_nilP (fr_list F17 hlg) (N17.isList (.head _)) (hu9 3 (by decide)) ?_
            have N18 := news_tail N17
            clear N17
            unfold gvOf
            by_cases hpe : ps = []
            · rw [hvt hpe, if_pos hpe]
              k_steps
              exact ⟨_, _, rfl, rfl, by assumption, N18⟩
            · rw [hvf hpe, if_neg hpe]
              k_steps
              exact ⟨_, _, rfl, rfl, by assumption, N18⟩
          clear F16 N16
          intro h16 tk16 F17 N17
          k_steps
          rename Fr _ _ _ _ => F18
          rename News _ _ _ _ => N18
          unfold HoldOn
          refine eval_compLM F18 N18 (fun h _ vs => ChTups 6 h vs) ?_ (fun h20 tk20 IT2 vs2 n20 F20 N20 ⟨os2, tv2, lvs2⟩ => ?_) (by with_unfolding_all rfl) (by decide) rfl (by decide) rfl
          · k_steps
            rename Fr _ _ _ _ => F6
            rename News _ _ _ _ => N6
            refine use_lo (others_c Xg Tg (by exact F6.keep) (tcl.fr F6) tcc.len tcc.ne fun h7 tk7 D7 vs7 os7 n7 k7 hD7 fD7 tv7 lv7 no7 => ?_) hh (by exact hd69) (by exact hu49)
            have F7 := fr_call0 F6 k7
            obtain ⟨x7, NX, back7⟩ := pin_tv F7 tv7
            have N7 := news_cons7 hD7 (fresh_neL F6 fD7) (fresh_of_stays F6.keep fD7) (news_app (news_call0 N6 k7) NX)
            clear F6 N6 NX
            dsimp only [List.cons_append, List.nil_append] at N7
            k_steps
            rename Fr _ _ _ _ => F8
            rename News _ _ _ _ => N8
            exact ⟨_, _, _, .ref cl :: vs7, 0, rfl, rfl, F8, (news_head N8 (news_upto _ (news_from 3 N8) : News g L _ (List.take 10 _))), cc :: os7,
              .cons (tcl.fr F8) (back7 _ _ F8 (news_from 13 N8)), Nat.succ_le_succ lv7⟩
          · clear F18
            have eLw20 := (news_pick 10 N20 rfl : h20.get? Lw = some oLw ∧ _).1
            have eIT : IT2 ≠ Lw := fun e => by
              have h1 := (news_pick 0 N20 rfl).1
              rw [e, eLw20] at h1
              cases h1
              cases hdLw
            have lLw20 : Lw < h20.objs.size := Heap.lt_size eLw20
            have nt20 : ∀ b ∈ [L, Lw], ∀ us, ¬ IsTup h20 b us := all_cons (fun us tu => by
              obtain ⟨o, ho, _, n, hd⟩ := tu
              obtain ⟨o', es', ep', ho', hd', _⟩ := F20.ns
              rw [show h20.get? _ = some o' from ho'] at ho; cases ho; rw [hd] at hd'; cases hd') (all_cons (fun us tu => by
              obtain ⟨o, ho, _, n, hd⟩ := tu
              rw [eLw20] at ho
              cases ho; rw [hd] at hdLw; cases hdLw) all_nil)
            refine comp_listM (hh := hh) (.head _) (Nat.lt_of_le_of_lt lvs2 (by decide)) F20 N20 [L, Lw] (all_cons ⟨F20.ns.lt, (news_pick 0 N20 rfl).2.1.symm⟩ (all_cons ⟨lLw20, eIT.symm⟩ all_nil)) (fun _ => ChJ0 fun sl => (IT2, listOf (List.toArray vs2) n20) :: _ :: _ :: _ :: _ :: _ :: _ :: _ :: _ :: _ :: [(Lw, { oLw with slots := sl })]) ⟨oLw.slots, rfl, rfl⟩ ?_ ?_
            · rintro s₂ I2 es₂ sz₂ up2 eI2 kk v C oC ys news₁ h tk m₂ hk hP ⟨sl, rfl, rfl⟩ no hx F23 N23 eC hb hnt hk2
              obtain ⟨a, c, rfl, hac, hcm⟩ := tv2.get hP
              have kp20 : Keep [L, Lw] h20 h := fun b o n q => hk2 b o (fun z => by rw [z, eI2] at q; exact absurd (Heap.lt_size q) (Nat.lt_irrefl _)) n (up2 b o q)
              have hca : TupInts h a c := tupi_keepN kp20 nt20 hac
              have hCLw : C ≠ Lw := fun z => by
                have h1 : Lw < C := by rw [eC, sz₂]; exact Nat.lt_succ_of_lt (Nat.lt_succ_of_lt lLw20)
                rw [z] at h1
                exact absurd h1 (Nat.lt_irrefl _)
              refine one_test ?_
              clear F20
              k_steps
              rename Fr _ _ _ _ => F24
              rename News _ _ _ _ => N24
              have eLw := (news_pick 11 N24 rfl : h.get? Lw = some { oLw with slots := sl } ∧ _).1
              refine told_gv Xg Tg (by exact F24.keep) (Around.frames_deeper hfr) (by exact hd48) (by exact hu39) hh (ff_push (frs_one FO.1 hLw eLw (fun us q => by rw [show ({ oLw with slots := sl } : Obj).data = oLw.data from rfl, hdLw] at q; cases q)) (by show ScopeKind.function ≠ .module; decide) rfl F24.ns (fun _ _ _ q => q))
                ⟨F24.keep _ _ ci, esA, nA, F24.keep _ _ cd, hpA, hlA⟩ hdcp (hcF _ rfl) (led_proof (news_upto 3 (news_from 8 N24))) gP (hOF _ rfl) (hFrI _ rfl) (SG.fr F24) (Nat.lt_trans hlen (by decide)) tid ⟨vps, fr_list F24 hlg, pvg.fr F24⟩ hpa (Nat.lt_trans hpl (by decide)) hps hf0 hf1 hca
                (hab.imp id fun e => (hcN e).1) (fun h' tk K => ?_)
              have F25 := kept_fr K rfl (by rw [List.nil_append, frs_push hLw]; exact all_cons gLw all_nil) F24
              obtain ⟨sl', N25⟩ := kept_ledA (pre := [_, _, _, _, _, _, _, _, _, _, _]) (post := []) K rfl hLw N24 (all_cons ⟨hCLw, notin_nil⟩ (all_cons ⟨eIT, notin_nil⟩ (all_cons ⟨Nat.ne_of_gt (Nat.lt_trans hLwN hLbf), notin_nil⟩ (all_cons ⟨Nat.ne_of_gt (Nat.lt_trans hLwN lc5), notin_nil⟩ (all_cons ⟨Nat.ne_of_gt (Nat.lt_trans hLwN lc4), notin_nil⟩ (all_cons ⟨Nat.ne_of_gt (Nat.lt_trans hLwN lc3), notin_nil⟩ (all_cons ⟨Nat.ne_of_gt (Nat.lt_trans hLwN lc2), notin_nil⟩ (all_cons ⟨Nat.ne_of_gt (Nat.lt_trans hLwN lc1), notin_nil⟩ (all_cons ⟨hw1.symm, notin_nil⟩ (all_cons ⟨hw2.symm, notin_nil⟩ (all_cons ⟨hw3.symm, notin_nil⟩ all_nil))))))))))) (fun _ m => nomatch m)
              clear F24 N24
              dsimp only [List.cons_append, List.nil_append] at N25
              have kW : Keep [L, Lw] h h' := kept_keep K rfl hLw
              k_steps
              refine ne_gv ?_
              k_steps
              rename Fr _ _ _ _ => F26
              rename News _ _ _ _ => N26
              exact ⟨h', _, by rw [es₂], kW, _, F26, news_tail N26, all_fst (P := fun a => a ≠ s₂.heap.objs.size ∧ a ≠ s₂.heap.objs.size + 1 ∧ a ≠ I2) hb rfl, sl', rfl, rfl⟩
            · rintro s₂ I2 D h' tk ys news₁ kk es₂ hgb hLs hD ⟨sl, rfl, rfl⟩ hl F23 N23 hb hk2
              unfold EvFin
              rw [es₂]
              clear F20 N20
              have N24 := news_drop2 N23
              clear N23
              k_steps
              rename Fr _ _ _ _ => F25
              rename News _ _ _ _ => N25
              unfold HoldOn
              refine eq_nilP (vs := []) (N25.isList (.tail _ (.head _))) (N25.isList (.head _)) (hu9 3 (by decide)) ?_
              have N26 := news_tail (news_tail N25)
              clear N25
              k_steps
              rename Fr _ _ _ _ => F27
              rename News _ _ _ _ => N27
              unfold HoldOn
              refine eq_same (N27.isList (.tail _ (.tail _ (.tail _ (.tail _ (.tail _ (.tail _ (.head _)))))))) (N27.isList (.head _)) (hu9 3 (by decide)) ?_
              k_steps
              rename Fr _ _ _ _ => F28
              rename News _ _ _ _ => N28
              have PE := led_proof (news_upto 3 (news_from 6 N28))
              exact hret _ _ [] [] _ (kept_end hg F28 hpi PE.inst hLw hoLw (news_pick 9 N28 rfl : _ = some { oLw with slots := sl } ∧ _).1) (by rw [List.append_nil]; exact PE) (by rw [List.append_nil, List.append_nil]; exact SG.fr F28) (fun _ m => nomatch m) (Nat.zero_le _)
        · have hpe : ps ≠ [] := fun e => hab (.inl e)
          obtain ⟨da, rfl⟩ := hdue.resolve_left fun e => hab (.inr e)
          refine PyProof.Rows.isTrue_or ?_
          k_steps
          rename Fr _ _ _ _ => F15
          rename News _ _ _ _ => N15
          unfold HoldOn
          refine eq_nilP (fr_list F15 hlg) (N15.isList (.head _)) (hu9 3 (by decide)) ?_
          rw [hvf hpe]
          have N16' := news_tail N15
          clear N15
          obtain ⟨ec, tda⟩ := hcS da rfl
          k_steps
          rename Fr _ _ _ _ => F16
          rename News _ _ _ _ => N16
          have eLw16 := (news_pick 9 N16 rfl : _ = some oLw ∧ _).1
          refine log_c Xg Tg (by exact F16.keep) (Around.frames_deeper hfr) (by exact Nat.lt_trans hd48 (Nat.lt_of_lt_of_le (Nat.lt_succ_self _) (Nat.le_of_ble_eq_true rfl))) (by exact Nat.le_trans hu39 (Nat.le_of_ble_eq_true rfl)) hh (ff_push (frs_one FO.1 hLw eLw16 (fun us q => by rw [hdLw] at q; cases q)) (by show ScopeKind.function ≠ .module; decide) rfl F16.ns (fun _ _ _ q => q))
            ⟨F16.keep _ _ ci, esA, nA, F16.keep _ _ cd, hpA, hlA⟩ hdcp (led_proof (news_upto 3 (news_from 6 N16))) gP (hFrI _ rfl) (SG.fr F16) (Nat.lt_trans hlen (by decide)) tid ⟨vps, fr_list F16 hlg, pvg.fr F16⟩ hpa (Nat.lt_trans hpl (by decide)) hps hf0 hf1 (tda.fr F16)
            (fun e => absurd e hpe) (fun _ _ h17 tk17 t17 K17 G17 => ?_) (fun d _ e ne => absurd (Option.some.inj (ec.symm.trans e)) ne) (fun _ e => by rw [ec] at e; cases e)
          obtain ⟨ra, em', P17, fra, R17⟩ := G17
          have hLW : L ∉ [st, dp] := notin_cons (Nat.ne_of_gt hstN) (notin_cons (Nat.ne_of_gt hdpN) notin_nil)
          have F17 := fr_call F16 K17 hLW (all_cons gst (all_cons gdp all_nil))
          obtain ⟨x17, X17, xt17, back17⟩ := pinT_row F17 R17
          obtain ⟨n17, b1, b2, b3, u1, u2, u3, u4, NP⟩ := led_ofx P17 gP lO X17
          have sdN : ∀ a, @LT.lt Nat _ L a → a ∉ [st, dp] := fun a h => notin_cons (Nat.ne_of_gt (Nat.lt_trans hstN h)) (notin_cons (Nat.ne_of_gt (Nat.lt_trans hdpN h)) notin_nil)
          have hLwW : Lw ∉ [st, dp] := notin_cons hw1 (notin_cons hw3 notin_nil)
          have N17 := news_app (news_callA (news := [_, _, _, _, _, _, (Lw, oLw)]) (news_head N16 (news_head (news_from 1 N16) (news_head (news_from 2 N16) (news_head (news_from 3 N16) (news_head (news_from 4 N16) (news_head (news_from 5 N16) (news_from 9 N16))))))) K17 (all_cons (sdN _ hLbf) (all_cons (sdN _ lc5) (all_cons (sdN _ lc4) (all_cons (sdN _ lc3) (all_cons (sdN _ lc2) (all_cons (sdN _ lc1) (all_cons hLwW all_nil)))))))) NP
          dsimp only [List.cons_append, List.nil_append, ledP] at N17
          clear F16 N16 NP X17
          k_steps
          have hpz : 0 < ps.length := List.length_pos_iff.mpr hpe
          unfold HoldOn
          refine eval_pairs (by with_unfolding_all rfl) (by decide) rfl (by decide) rfl rfl (by decide) ?_
          k_steps
          rename Fr _ _ _ _ => F18
          rename News _ _ _ _ => N18
          refine PairsC.intro (fun p => p.2) rfl hh F18 N18 hlg pvg (Nat.lt_trans hpl (by decide)) (fun I p t u C oC m₂ h tk hp no h1 h2 F8 N8 hC => ?_) fun D zs h' tk n F8 N8 l8 iz => ?_
          · clear F18 N18
            k_steps
            exact ⟨rfl, ⟨_, rfl⟩, _, _, rfl, Keep.refl _ _⟩
          · clear F18 N18
            k_steps
            rename Fr _ _ _ _ => F9
            rename News _ _ _ _ => N9
            have hzl : zs.length = ps.length := by rw [iz.length, List.length_map]
            refine add_tups (vs := [.int first tf]) (ws := zs) F9 N9 ⟨_, (N9 _ (.tail _ (.tail _ (.head _)))).1, rfl, _, rfl⟩ ⟨_, (N9 _ (.head _)).1, rfl, _, rfl⟩ (Nat.succ_pos 0) (hzl ▸ hpz) (by exact lh_t hpl hzl) fun D3 h3 F10 N10 l10 => ?_
            clear F9 N9
            dsimp only at F10 N10 ⊢
            k_lt l10
            k_steps
            unfold HoldOn
            refine eval_pairs (by with_unfolding_all rfl) (by decide) rfl (by decide) rfl rfl (by decide) ?_
            k_steps
            rename Fr _ _ _ _ => F11
            rename News _ _ _ _ => N11
            refine PairsC.intro (fun p => p.1) rfl hh F11 N11 hlg pvg (Nat.lt_trans hpl (by decide)) (fun I p t u C oC m₂ h tk hp no h1 h2 F8 N8 hC => ?_) fun D4 zs4 h' tk n F8 N8 l8 iz4 => ?_
            · clear F11 N11
              k_steps
              exact ⟨rfl, ⟨_, rfl⟩, _, _, rfl, Keep.refl _ _⟩
            · clear F11 N11
              k_steps
              · exfalso; omega
              · rename Fr _ _ _ _ => F19
                rename News _ _ _ _ => N19
                unfold HoldOn
                have e17 : (as ++ [ra]).map Value.ref = as.map Value.ref ++ [.ref ra] := List.map_append ..
                have hst19 : Heap.IsList _ st (List.toArray (as.map Value.ref ++ [.ref ra])) := e17 ▸ N19.isList (List.mem_append_right [_, _, _, _, _, _, _, _, _, _, _, _, _, _, _, _] (.head _))
                obtain ⟨rda, rpr, rvr, rtr, rt1, rt2, rt3, rt4⟩ := back17 _ _ F19 (news_from 19 N19)
                refine ne_snoc hst19 (N19.isList (.head _)) (hu9 3 (by decide)) (eqat_rowE (hu9 5 (by decide)) rt1 ⟨_, (N19 _ (.tail _ (.tail _ (.head _)))).1, rfl, _, rfl⟩ rt2 rt3 rt4 (tda.fr F19)
                  ⟨_ :: zs, .cons first tf iz, _, (N19 _ (.tail _ (.tail _ (.tail _ (.tail _ (.tail _ (.head _))))))).1, rfl, _, rfl⟩ ⟨zs4, iz4, _, (N19 _ (.tail _ (.tail _ (.tail _ (.head _))))).1, rfl, _, rfl⟩) ?_
                have N20 := news_also N19 (.tail _ (.tail _ (.head _))) (news_also N19 (.tail _ (.tail _ (.tail _ (.head _)))) (news_also N19 (.tail _ (.tail _ (.tail _ (.tail _ (.tail _ (.head _)))))) (news_tail (news_tail (news_tail (news_tail (news_tail (news_tail (news_tail (news_tail (news_tail N19)))))))))))
                obtain ⟨rw1, erw1⟩ := name_head N20
                subst erw1
                obtain ⟨rw2, erw2⟩ := name_head (news_tail N20)
                subst erw2
                clear N19
                k_steps
                rename Fr _ _ _ _ => F21
                rename News _ _ _ _ => N21
                unfold HoldOn
                refine eval_compLM F21 N21 (fun h IT vs => ChLate cc [st, pr, dp, Lw] h IT vs) ?_ (fun h20 tk20 IT2 vs2 n20 F20 N20 ⟨os2, tv2, lvs2, no2, nIT⟩ => ?_) (by with_unfolding_all rfl) (by decide) rfl (by decide) rfl
                · k_steps
                  rename Fr _ _ _ _ => F6
                  rename News _ _ _ _ => N6
                  refine use_lo (others_c Xg Tg (by exact F6.keep) (tda.fr F6) tcc.len tcc.ne fun h7 tk7 D7 vs7 os7 n7 k7 hD7 fD7 tv7 lv7 no7 => ?_) hh (by exact hd69) (by exact hu49)
                  exact ⟨_, _, D7, vs7, n7, rfl, rfl, fr_call0 F6 k7, news_cons7 hD7 (fresh_neL F6 fD7) (fresh_of_stays F6.keep fD7) (news_call0 N6 k7), os7, tv7, lv7, no7, notin_cons (fresh_ne fD7 (news_pick 10 N6 rfl).1) (notin_cons (fresh_ne fD7 (news_pick 11 N6 rfl).1) (notin_cons (fresh_ne fD7 (news_pick 12 N6 rfl).1) (notin_cons (fresh_ne fD7 (news_pick 9 N6 rfl).1) notin_nil)))⟩
                · clear F21
                  have eLw20 := (news_pick 10 N20 rfl : _ = some oLw ∧ _).1
                  have P20 := led_proof (news_upto 3 (news_from 11 N20))
                  have hnt20 := notup4 F20 eLw20 (fun vs n q => by rw [hdLw] at q; cases q) P20
                  have hlt20 : ∀ b ∈ [L, Lw, st, dp], b < h20.objs.size := all_cons F20.ns.lt (all_cons (Heap.lt_size eLw20) (all_cons (Heap.lt_size (news_pick 11 N20 rfl).1) (all_cons (Heap.lt_size (news_pick 13 N20 rfl).1) all_nil)))
                  have hITW : IT2 ∉ [L, Lw, st, dp] := notin_cons (news_pick 0 N20 rfl).2.1 (notin_cons (fun e => nIT (e ▸ .tail _ (.tail _ (.tail _ (.head _))))) (notin_cons (fun e => nIT (e ▸ .head _)) (notin_cons (fun e => nIT (e ▸ .tail _ (.tail _ (.head _)))) notin_nil)))
                  have hrW : ∀ {a : Addr} {vs : Array Value} {n : Nat}, h20.get? a = some { cls := .type "tuple", data := .seq vs n } → a ∉ [L, Lw, st, dp] := fun e mb => tupO_not ⟨rfl, _, _, rfl⟩ e (hnt20 _ mb) rfl
                  have hLs : ∀ a, @LT.lt Nat _ L a → a ∉ [L, Lw, st, dp] := fun a h => notin_cons (Nat.ne_of_gt h) (notin_cons (Nat.ne_of_gt (Nat.lt_trans hLwN h)) (notin_cons (Nat.ne_of_gt (Nat.lt_trans hstN h)) (notin_cons (Nat.ne_of_gt (Nat.lt_trans hdpN h)) notin_nil)))
                  have hlAc : as.length = cls.length := S.len
                  have ech : ∀ ds, chainP (cls ++ ds) (some ((cls ++ ds).getD first.toNat [])) ps = some cc := fun ds => by
                    rw [getD_ext hf0 (hlAc ▸ hf1), chainP_ext (fun p hp => ⟨(hps p hp).2.2.1, hlAc ▸ (hps p hp).2.2.2⟩)]; exact ec
                  have psN := ps
                  refine comp_listM (hh := hh) (.head _) (Nat.lt_of_le_of_lt lvs2 (by decide)) F20 N20 [L, Lw, st, dp] (fun b hb => ⟨hlt20 b hb, fun e => hITW (e ▸ hb)⟩)
                    (ChJ g L Lw oLw pr dp st nm ra as cc (first :: ps.map (·.2)) (ps.map (·.1)) fun l => (IT2, listOf (List.toArray vs2) n20) :: _ :: _ :: _ :: _ :: _ :: _ :: _ :: _ :: _ :: l)
                    ⟨oLw.slots, [], [], n17, b1, b2, b3, u1, u2, u3, u4, em', x17, rfl, rfl, Nat.le_refl _, (fun _ m => nomatch m), xt17, fun h' m' F' N' => ⟨back17 h' m' F' N', .nil⟩⟩ ?_ ?_
                  · rintro s₂ I2 es₂ sz₂ up2 eI2 kk v C oC ys news₁ h tk m₂ hk hP ⟨sl, bs, ds, n1, ca1, ca2, ca3, ct1, ct2, ct3, ct4, em1, x, rfl, rfl, hbl, htd, xt, back⟩ no hx F23 N23 eC hb hnt hk2
                    obtain ⟨a, c, rfl, hac, hcm⟩ := tv2.get hP
                    have kp20 : Keep [L, Lw, st, dp] h20 h := fun b o n q => hk2 b o (fun z => by rw [z, eI2] at q; exact absurd (Heap.lt_size q) (Nat.lt_irrefl _)) n (up2 b o q)
                    have hca : TupInts h a c := tupi_keepN kp20 hnt20 hac
                    have hCW : C ∉ [L, Lw, st, dp] := fun z => by
                      have h1 : C < h20.objs.size := hlt20 _ z
                      rw [eC, sz₂] at h1
                      exact absurd h1 (Nat.not_lt.mpr (Nat.le_succ_of_le (Nat.le_succ _)))
                    refine one_test ?_
                    clear F20
                    dsimp only [ledP, List.cons_append, List.nil_append] at N23
                    k_steps
                    rename Fr _ _ _ _ => F24
                    rename News _ _ _ _ => N24
                    have eLw := (news_pick 11 N24 rfl : _ = some { oLw with slots := sl } ∧ _).1
                    have P24 := led_proof (news_upto 3 (news_from 12 N24))
                    have hr24 := back _ _ F24 (news_from 15 N24)
                    have hnt24 := notup4 F24 eLw (fun vs n q => by rw [show ({ oLw with slots := sl } : Obj).data = oLw.data from rfl, hdLw] at q; cases q) P24
                    refine told_c (as := as ++ ra :: bs) (cls := cls ++ cc :: ds) Xg Tg (by exact F24.keep) (Around.frames_deeper hfr) (by exact hd48) (by exact hu39) hh (ff_push (frs_one FO.1 hLw eLw (fun us q => by rw [show ({ oLw with slots := sl } : Obj).data = oLw.data from rfl, hdLw] at q; cases q)) (by show ScopeKind.function ≠ .module; decide) rfl F24.ns (fun _ _ _ q => q))
                      ⟨F24.keep _ _ ci, esA, nA, F24.keep _ _ cd, hpA, hlA⟩ hdcp (hcF _ rfl) P24 gP (hOF _ rfl) (hFrI _ rfl) ((SG.fr F24).app (.cons hr24.1.step hr24.2)) (by rw [List.length_append, List.length_cons]; exact lh_n hlen hbl hk lvs2) (all_app tid (all_cons tcc htd)) ⟨vps, fr_list F24 hlg, pvg.fr F24⟩ hpa (Nat.lt_trans hpl (by decide)) (fun p hp => (hps p hp).imp id fun h => h.imp id fun h => h.imp id fun h => by rw [List.length_append]; exact lh_f h) hf0 (by rw [List.length_append]; exact lh_f hf1) hca
                      (fun e => absurd e hpe) (fun _ e => absurd (Option.some.inj ((ech _).symm.trans e)).symm (no2 c hcm)) (fun d e1 e2 e3 h' tk K G5 => ?_) (fun _ e => by rw [ech] at e; cases e)
                    have ed : d = cc := Option.some.inj (e2.symm.trans (ech _))
                    rw [ed] at G5
                    have F25 := kept_fr K rfl (by rw [frs_push hLw]; exact all_cons gst (all_cons gdp (all_cons gLw all_nil))) F24
                    obtain ⟨ra5, em5, P5, fa5, R5⟩ := G5
                    obtain ⟨x5, X5, xt5, back5⟩ := pinT_row F25 R5
                    have eas : as ++ ra :: bs ++ [ra5] = as ++ ra :: (bs ++ [ra5]) := by rw [List.append_assoc, List.cons_append]
                    rw [eas] at P5
                    obtain ⟨n5, b51, b52, b53, u51, u52, u53, u54, NP5⟩ := led_ofx P5 gP lO X5
                    have nW : ∀ {a : Addr}, a ∉ [L, Lw, st, dp] → a ≠ Lw ∧ a ∉ [st, dp] := fun n => ⟨fun e => n (e ▸ .tail _ (.head _)), fun m => n (.tail _ (.tail _ m))⟩
                    obtain ⟨sl', N25⟩ := kept_ledA (pre := [_, _, _, _, _, _, _, _, _, _, _]) (post := x) K rfl hLw (news_app (a := [_, _, _, _, _, _, _, _, _, _, _, _]) (news_upto 12 N24) (news_from 15 N24))
                      (all_cons (nW hCW) (all_cons (nW hITW) (all_cons (nW (hrW (news_pick 1 N20 rfl).1)) (all_cons (nW (hrW (news_pick 2 N20 rfl).1)) (all_cons (nW (hrW (news_pick 3 N20 rfl).1)) (all_cons (nW (hLs _ hLbf)) (all_cons (nW (hLs _ lc5)) (all_cons (nW (hLs _ lc4)) (all_cons (nW (hLs _ lc3)) (all_cons (nW (hLs _ lc2)) (all_cons (nW (hLs _ lc1)) all_nil)))))))))))
                      (fun q hq => nW fun m => tupO_not (xt q hq) (news_from 15 N24 q hq).1 (hnt24 _ m) rfl)
                    have N26 : News g L h' (_ :: _ :: _ :: _ :: _ :: _ :: _ :: _ :: _ :: _ :: _ :: (Lw, _) :: (ledP pr dp st nm (as ++ ra :: (bs ++ [ra5])) n5 b51 b52 b53 u51 u52 u53 u54 em5 ++ (x ++ x5))) :=
                      news_app (a := [_, _, _, _, _, _, _, _, _, _, _, _]) (news_upto 12 N25) (news_app (news_upto 3 NP5) (news_app (news_from 12 N25) (news_from 3 NP5)))
                    clear F24 N24 N25 NP5
                    dsimp only [List.cons_append, List.nil_append, ledP] at N26
                    have kW : Keep [L, Lw, st, dp] h h' := kept_keep K rfl hLw
                    have nb : ∀ b ∈ [s₂.heap.objs.size, s₂.heap.objs.size + 1, I2], NoTup h' b := fun b mb => by
                      cases hnt b mb with | mk o ho n => exact ⟨o, kW b o (fun z => (all_cons (P := fun b => ¬ b < h20.objs.size) (by rw [sz₂]; exact Nat.not_lt.mpr (Nat.le_succ _)) (all_cons (by rw [sz₂]; exact Nat.not_lt.mpr (Nat.le_succ_of_le (Nat.le_succ _))) (all_cons (by rw [eI2]; exact Nat.lt_irrefl _) all_nil))) b mb (hlt20 b z)) ho, n⟩
                    k_steps
                    rename Fr _ _ _ _ => F27
                    rename News _ _ _ _ => N27
                    exact ⟨h', _, by rw [es₂], kW, _, F27, news_tail N27, all_app (l := _ :: _ :: _ :: _ :: _ :: _ :: _ :: _ :: _ :: _ :: _ :: _ :: _ :: _ :: x) (r := x5) (all_fst (P := fun a => a ≠ s₂.heap.objs.size ∧ a ≠ s₂.heap.objs.size + 1 ∧ a ≠ I2) hb rfl)
                      (fun q m => have e5 := (news_from 15 N27 q (List.mem_append_right x m)).1; ⟨tupO_no (xt5 q m) e5 (nb _ (.head _)), tupO_no (xt5 q m) e5 (nb _ (.tail _ (.head _))), tupO_no (xt5 q m) e5 (nb _ (.tail _ (.tail _ (.head _))))⟩),
                      sl', bs ++ [ra5], ds ++ [cc], n5, b51, b52, b53, u51, u52, u53, u54, em5, x ++ x5, rfl, rfl, by rw [List.length_append]; exact Nat.succ_le_succ hbl, all_app htd (all_cons tcc all_nil), all_app xt xt5, fun h9 m9 F9 N9 =>
                        have b1 := back h9 m9 F9 fun q m => N9 q (List.mem_append_left _ m)
                        ⟨b1.1, b1.2.app (.cons (back5 h9 m9 F9 fun q m => N9 q (List.mem_append_right _ m)).step .nil)⟩⟩
                  · rintro s₂ I2 D h' tk ys news₁ kk es₂ hgb hLs hD ⟨sl, bs, ds, n1, ca1, ca2, ca3, ct1, ct2, ct3, ct4, em1, x, rfl, rfl, hbl, htd, xt, back⟩ hl F23 N23 hb hk2
                    unfold EvFin
                    rw [es₂]
                    clear F20 N20
                    have N24 := news_drop2 N23
                    clear N23
                    dsimp only [List.cons_append, List.nil_append, ledP] at N24
                    k_steps
                    rename Fr _ _ _ _ => F25
                    rename News _ _ _ _ => N25
                    unfold HoldOn
                    refine eq_nilP (vs := []) (N25.isList (.tail _ (.head _))) (N25.isList (.head _)) (hu9 3 (by decide)) ?_
                    have N26 := news_tail (news_tail N25)
                    clear N25
                    k_steps
                    rename Fr _ _ _ _ => F28
                    rename News _ _ _ _ => N28
                    refine kmk_slice (lo := none) (hi := some (((as.length : Nat) : Int) + 1)) F28 N28 (N28.isList (List.mem_of_getElem? (i := 10) rfl)) ?sp ?sq (fun D3 h3 F29 N29 l29 => ?_) ?ss ?st ?sz
                    case sp => kmk_part
                    case sq => kmk_part
                    case ss => with_unfolding_all rfl
                    case st => kmk_pure
                    case sz => rw [sizeLine_eq, List.size_toArray, List.length_map, List.length_append, List.length_cons]; omega
                    clear F28 N28
                    rw [show slicePick (List.map Value.ref (as ++ ra :: bs)).toArray none (some ((as.length : Nat) + 1 : Int)) none = (as.map Value.ref ++ [Value.ref ra]).toArray from take_snoc as ra bs] at N29
                    k_steps
                    rename Fr _ _ _ _ => F30
                    rename News _ _ _ _ => N30
                    unfold HoldOn
                    obtain ⟨⟨rda', rpr', rvr', rtr', rs1, rs2, rs3, rs4⟩, _⟩ := back _ _ F30 (news_from 16 N30)
                    refine eq_snoc (N30.isList (.tail _ (.tail _ (.head _)))) (N30.isList (.head _)) (hu9 3 (by decide)) (eqat_rowE (hu9 5 (by decide)) rs1 ⟨_, (N30 _ (.tail _ (.tail _ (.tail _ (.head _))))).1, rfl, _, rfl⟩ rs2 rs3 rs4 (tda.fr F30)
                      ⟨_ :: zs, .cons first tf iz, _, (N30 _ (.tail _ (.tail _ (.tail _ (.tail _ (.tail _ (.head _))))))).1, rfl, _, rfl⟩ ⟨zs4, iz4, _, (N30 _ (.tail _ (.tail _ (.tail _ (.tail _ (.head _)))))).1, rfl, _, rfl⟩) ?_
                    k_steps
                    rename Fr _ _ _ _ => F31
                    rename News _ _ _ _ => N31
                    have PE := led_proof (news_upto 3 (news_from 13 N31))
                    have b31 := back _ _ F31 (news_from 16 N31)
                    exact hret _ _ (ra :: bs) (cc :: ds) _ (kept_end hg F31 hpi PE.inst hLw hoLw (news_pick 12 N31 rfl : _ = some { oLw with slots := sl } ∧ _).1) PE ((SG.fr F31).app (.cons b31.1.step b31.2)) (all_cons tcc htd) (Nat.succ_le_succ (Nat.le_trans hbl (Nat.le_trans lvs2 (by decide))))
end
end SChd
theorem word44 : True := by
  k_with_none
  k_with "call builtin:len" => (k_here; (with_reducible show wpAny _ _ (call (Value.builtin "len") [Value.ref _]) _ _ _); (with_unfolding_all refine' len_tupI ?k1 ?k2 ?k3 ?_; (case k1 => first | assumption | exact Fr.tup (by assumption) (by assumption)); (case k2 => l_ints); (case k3 => l_fit); k_whole))
  k_with "call builtin:len" => (k_here; (with_reducible show wpAny _ _ (call (Value.builtin "len") [Value.ref _]) _ _ _); (with_unfolding_all refine' len_lst ?k1 ?k3 ?_; (case k1 => exact News.isList (by k_asm) (by k_mem)); (case k3 => (simp only [List.length_map]; omega)); k_whole))
  k_with "subscriptTail" => (k_here; (with_reducible show wpAny _ _ (subscriptTail _ _ (Value.ref _) (Value.int _ _)) _ _ _); (with_unfolding_all refine' item_tuple_ints ?k1 ?k2 ?k3 ?k4 ?k5 ?_ ?k6 ?k7; (case k1 => first | assumption | exact Fr.tup (by assumption) (by assumption)); (case k2 => l_ints); (case k3 => omega); (case k4 => omega); (case k5 => omega); (case k6 => with_unfolding_all rfl); (case k7 => (intro _; with_unfolding_all rfl)); k_whole); intro _)
  k_with "subscriptTail" => (k_here; (with_reducible show wpAny _ _ (subscriptTail _ _ (Value.ref _) (Value.int _ _)) _ _ _); (with_unfolding_all refine' item_listR ?k1 ?k2 ?k3 ?k4 ?_ ?k6; (case k4 => assumption); (case k1 => exact News.isList (by k_asm) (by k_mem)); (case k2 => omega); (case k3 => omega); (case k6 => with_unfolding_all rfl); k_whole))
  k_with "exec For Name Name cons nil" => (k_here; (rename Fr _ _ _ _ => lF'); (with_unfolding_all refine' for_walksF lF' ?k1 ?k2 ?_; (case k1 => exact rfl); (case k2 => exact rfl); k_whole))
  k_with "exec For Name Call cons nil" => (k_here; (rename Fr _ _ _ _ => lF'); (with_unfolding_all refine' for_walksF lF' ?k1 ?k2 ?_; (case k1 => exact rfl); (case k2 => exact rfl); k_whole))
  trivial
section SSrch
theorem word45 : True := by
  k_with "wpAt" => (k_dflt (ks_step "exec Expr"; refine ks_wpAt_Expr_any ?_))
  k_with "wpAt" => (k_dflt (ks_step "eval Call"; refine ks_wpAt_MethodCall ?_))
  trivial
/-- an object's dict, known by the names that it may hold -/
structure Keys (es : List DictEntry) (l : List Str) : Prop where
  str : ∀ e ∈ es, ∃ k t, e.key = .str k t ∧ k ∈ l
  len : es.length ≤ l.length
theorem Keys.nil : Keys [] [] := ⟨all_nil, Nat.le_refl _⟩
theorem keys_find {es : List DictEntry} {l : List Str} (K : Keys es l) (k : Str) : getL k es = some ((es.find? (·.key.isStr k)).map (·.val)) := by
  unfold getL
  cases h : es.find? (·.key.isStr k) with
  | some e => rfl
  | none =>
    have : es.any (·.refKey) = false := List.any_eq_false.mpr fun e m => by
      obtain ⟨a, t, e', _⟩ := K.str e m
      unfold DictEntry.refKey
      rw [e']
      simp
    rw [if_neg (by rw [this]; decide)]
    rfl
theorem keys_absent {es : List DictEntry} {l : List Str} (K : Keys es l) {k : Str} (n : k ∉ l) : getL k es = some none := by
  rw [keys_find K, List.find?_eq_none.mpr fun e m => ?_]
  · rfl
  · obtain ⟨a, t, e', ha⟩ := K.str e m
    rw [e']
    intro h
    exact n (eq_of_beq (show (a == k) = true from h) ▸ ha)
theorem putL_str {name : Str} {hs : Int} {t : Tok} {v : Value} {l : List Str} : ∀ {es : List DictEntry}, (∀ e ∈ es, ∃ k t, e.key = .str k t ∧ k ∈ l) → ∀ e ∈ putL name hs (.str name t) v es, ∃ k t, e.key = .str k t ∧ k ∈ name :: l
  | [], _ => all_cons ⟨name, t, rfl, .head _⟩ all_nil
  | e :: r, h => by
    unfold putL
    have up : ∀ {e : DictEntry}, (∃ k t, e.key = .str k t ∧ k ∈ l) → ∃ k t, e.key = .str k t ∧ k ∈ name :: l := fun ⟨k, t, e, m⟩ => ⟨k, t, e, .tail _ m⟩
    split
    · exact all_cons (up (e := e) (h e (.head _))) fun e' m => up (h e' (.tail _ m))
    · exact all_cons (up (h e (.head _))) (putL_str fun e' m => h e' (.tail _ m))
theorem putL_len {name : Str} {hs : Int} {key v : Value} : ∀ {es : List DictEntry}, (putL name hs key v es).length ≤ es.length + 1
  | [] => Nat.le_refl _
  | e :: r => by
    unfold putL
    split
    · exact Nat.le_succ _
    · exact Nat.succ_le_succ putL_len
theorem Keys.put {name : Str} {hs : Int} {t : Tok} {v : Value} {es : List DictEntry} {l : List Str} (K : Keys es l) : Keys (putL name hs (.str name t) v es) (name :: l) := ⟨putL_str K.str, Nat.le_trans putL_len (Nat.succ_le_succ K.len)⟩
theorem putL_find_ne {name k : Str} {hs : Int} {t : Tok} {v : Value} (n : k ≠ name) : ∀ {es : List DictEntry}, ((putL name hs (.str name t) v es).find? (·.key.isStr k)).map (·.val) = (es.find? (·.key.isStr k)).map (·.val)
  | [] => by
    have : (name == k) = false := beq_eq_false_iff_ne.mpr (Ne.symm n)
    show Option.map _ (List.find? _ [_]) = _
    rw [List.find?_cons_of_neg (by show ¬ (name == k) = true; rw [this]; decide)]
  | e :: r => by
    unfold putL
    split
    · rename_i h
      have hk : e.key.isStr k = false := by
        cases q : e.key with
        | str a u =>
          rw [q] at h
          have ha : a = name := eq_of_beq (show (a == name) = true from h)
          show (a == k) = false
          rw [ha]
          exact beq_eq_false_iff_ne.mpr (Ne.symm n)
        | _ => rfl
      rw [List.find?_cons_of_neg (by show ¬ e.key.isStr k = true; rw [hk]; decide), List.find?_cons_of_neg (by show ¬ e.key.isStr k = true; rw [hk]; decide)]
    · cases hk : e.key.isStr k with
      | true => rw [List.find?_cons_of_pos (by exact hk), List.find?_cons_of_pos (by exact hk)]
      | false => rw [List.find?_cons_of_neg (by show ¬ e.key.isStr k = true; rw [hk]; decide), List.find?_cons_of_neg (by show ¬ e.key.isStr k = true; rw [hk]; decide)]; exact putL_find_ne n
theorem putL_find_eq {name : Str} {hs : Int} {t : Tok} {v : Value} : ∀ {es : List DictEntry}, ((putL name hs (.str name t) v es).find? (·.key.isStr name)).map (·.val) = some v
  | [] => by
    show Option.map _ (List.find? _ [_]) = _
    rw [List.find?_cons_of_pos (by show (name == name) = true; exact beq_self_eq_true _)]
    rfl
  | e :: r => by
    unfold putL
    split
    · rename_i h
      rw [List.find?_cons_of_pos (by exact h)]
      rfl
    · rename_i h
      rw [List.find?_cons_of_neg (by exact h)]
      exact putL_find_eq
theorem set_key {prog : Program} {w : World} {A : Around} {E : Value → Shared → Prop} {s : Shared} {h₀ : Heap} {L : Addr} {m : Str → Option Value} {K : Frag} {x dx C : Addr} {name : Str} {v : Value} {es : List DictEntry} {n : Nat} {l : List Str} {news : List (Addr × Obj)} {Q : Unit → Shared → Prop} (F : Fr h₀ L s.heap m) (X₀ : K.In h₀) (N : News h₀ L s.heap news)
    (mx : (x, instObj C dx) ∈ news) (md : (dx, dictOf es n) ∈ news) (Ks : Keys es l) (hx : @Ne Nat x dx)
    (hs : findIn K (.ref C) "__setattr__" = some (some (.builtin "object.__setattr__"))) (hp : plainOver K C = true) (ht : takerIn K C name = some none) (hh : hasDictIn K C = true) (hz : l.length < 1000)
    (h : ∀ h' es' n', Fr h₀ L h' m → News h₀ L h' [(x, instObj C dx), (dx, dictOf es' n')] → Keys es' (name :: l) → (∀ k, k ≠ name → getL k es' = getL k es) → getL name es' = some (some v) → Q () { s with heap := h', toks := s.toks + 2 }) :
    wpAny (model prog w) A (setAttr (.ref x) name v) Q E s :=
  set_dict F X₀ (all_cons (N _ mx) (all_cons (N _ md) all_nil) : News h₀ L s.heap [(x, instObj C dx), (dx, dictOf es n)]) ⟨(N _ mx).1, rfl, rfl, (N _ md).1⟩ rfl hs hp ht hh (by rw [keys_find Ks]; rfl) rfl (.tail hx (.head all_nil)) (Nat.le_trans Ks.put.len hz)
    fun h' F' N' => h h' _ _ F' N' Ks.put (fun k q => by rw [keys_find Ks.put, keys_find Ks, putL_find_ne q]) (by rw [keys_find Ks.put, putL_find_eq])
theorem word46 : True := by
  k_with "setAttr ref" => (k_here; k_dflt (refine' set_key ?k1 ?k2 ?k3 ?k4 ?k5 ?k6 ?k7 ?k8 ?k9 ?ka ?kb ?kc ?_; (case k1 => k_asm); (case k2 => k_asm); (case k3 => k_asm); (case k4 => k_mem); (case k5 => k_mem); (case k6 => with_reducible assumption); (case k7 => with_reducible assumption); (case k8 => k_is); (case k9 => k_is); (case ka => k_is); (case kb => k_is); (case kc => exact Nat.le_of_ble_eq_true rfl); k_whole; intro h' es' n' F' N' K' g' e'; (first | (have hpin2 := (g' (Str.ofString "proof") (by decide)).trans hpin; clear hpin; have hpin := hpin2; clear hpin2) | (have hpin := (show getL (Str.ofString "proof") _ = _ from e')) | skip); clear g' e'; (try k_sweep)))
  trivial
section
variable {w : World} {mean : ExcName → Option Value} {mg mb : Str → Option Value} {B : Heap} {s : Shared} {Q E : Value → Shared → Prop}
theorem inst_news {g h h₁ : Heap} {L x dx C : Addr} {o : Obj} (hg : g = hideAll h [x, dx]) (hL : L = h.objs.size) (hk : ∀ b o, h.get? b = some o → h₁.get? b = some o) (hx : h.get? x = some (instObj C dx)) (hd : h.get? dx = some o) : News g L h₁ [(x, instObj C dx), (dx, o)] := by
  intro p hp
  rcases List.mem_cons.mp hp with rfl | hp
  · exact ⟨hk _ _ hx, hL ▸ Nat.ne_of_lt (Heap.lt_size hx), hg ▸ hideAll_none _ (.head _)⟩
  rw [List.mem_singleton.mp hp]
  exact ⟨hk _ _ hd, hL ▸ Nat.ne_of_lt (Heap.lt_size hd), hg ▸ hideAll_none _ (.tail _ (.head _))⟩
theorem inst_ne {h : Heap} {x dx C : Addr} {es : List DictEntry} {n : Nat} (hx : h.get? x = some (instObj C dx)) (hd : h.get? dx = some (dictOf es n)) : @Ne Nat x dx := fun e => by
  rw [show x = dx from e, hd] at hx
  exact absurd (show Value.type "dict" = Value.ref C from congrArg Obj.cls (Option.some.inj hx)) (by intro q; cases q)
theorem keep_dx {g h h' : Heap} {L x dx C : Addr} {m : Str → Option Value} {news : List (Addr × Obj)} (hg : g = hideAll h [x, dx]) (F : Fr g L h' m) (N : News g L h' news) (hm : (x, instObj C dx) ∈ news) (hx : h.get? x = some (instObj C dx)) : Keep [dx] h h' :=
  (Keep.of_base hg F.keep).shrink fun a m => (List.mem_cons.mp m).elim (fun e => .inr (e ▸ same_of hx (N _ hm).1)) .inl
theorem news_pair {g h : Heap} {L x y : Addr} {o1 o2 : Obj} (h1 : h.get? x = some o1) (h2 : h.get? y = some o2) (n1 : x ≠ L ∧ g.get? x = none) (n2 : y ≠ L ∧ g.get? y = none) : News g L h [(x, o1), (y, o2)] := fun q hq => by
  rcases List.mem_cons.mp hq with rfl | hq
  · exact ⟨h1, n1⟩
  rw [List.mem_singleton.mp hq]
  exact ⟨h2, n2⟩
theorem heap_init_c {A : Around} {R : Result → Shared → Prop} (X : (Mine.hd.heap_39 w.params).In B) (T : Tp mean mg mb B) (hB : B.StaysIn s.heap) {x dx : Addr} (hx : s.heap.get? x = some (instObj 201 dx)) (hd : s.heap.get? dx = some (dictOf [] 0)) (hO : ∀ a ∈ [x, dx], B.get? a = none) (hA : A.depth < 700)
    (hret : ∀ h' tk, Keep [dx] s.heap h' → R (.ok (.ret .none)) { s with heap := h', toks := tk }) :
    codeAny (model PySem.Challenge.rw_rg0222_01.row.prog w) A (.call (.ref 93) ⟨[.ref x], []⟩) R s := by
  have hroom : A.depth < recursionLimit := Nat.lt_of_lt_of_le hA (Nat.le_of_ble_eq_true rfl)
  have X0 := X.keeps hB
  k_dflt (refine' enter (binds := [(Str.ofString "self", .ref x), (Str.ofString "limit", .int 1000000000000 285)]) [x, dx] X T.nolimit hB hO ?k6 ?k7 ?k8 ?k9 ?kB ?_ ?c5 ?c2 ?c3 ?c4; (case k6 => k_is); (case k7 => k_is); (case k8 => exact hroom); (case k9 => exact binds_K (by k_in) rfl (by k_is) rfl rfl rfl); (case c5 => decide); (case kB => exact locs rfl); (case c2 => exact rfl); (case c3 => exact rfl); (case c4 => exact rfl))
  intro g L h₁ hg hL F hk₁ sg Xg
  have Tg := T.keeps sg
  have N := inst_news hg hL hk₁ hx hd
  have hxd := inst_ne hx hd
  have K0 := Keys.nil
  refine wpAny_mono (E := fun _ _ => False) ?_ (fun _ _ h => h) (fun _ _ h => h.elim)
  k_fold
  k_steps
  rename Fr _ _ _ _ => F2
  rename News _ _ _ _ => N2
  exact hret _ _ (keep_dx hg F2 N2 (by k_mem) hx)
theorem trail_init_c {A : Around} {R : Result → Shared → Prop} (X : (Mine.hd.heap_39 w.params).In B) (T : Tp mean mg mb B) (hB : B.StaysIn s.heap) {x dx : Addr} (hx : s.heap.get? x = some (instObj 553 dx)) (hd : s.heap.get? dx = some (dictOf [] 0)) (hO : ∀ a ∈ [x, dx], B.get? a = none) (hA : A.depth < 600)
    (hret : ∀ h' tk es n, Keep [dx] s.heap h' → h'.get? dx = some (dictOf es n) → Keys es [Str.ofString "learnt_count", Str.ofString "activities", Str.ofString "droppable", Str.ofString "steps", Str.ofString "clauses", Str.ofString "told", Str.ofString "head", Str.ofString "starts", Str.ofString "trail", Str.ofString "heap", Str.ofString "watches", Str.ofString "phases", Str.ofString "spots", Str.ofString "reasons", Str.ofString "levels", Str.ofString "assigns", Str.ofString "hook"] → R (.ok (.ret .none)) { s with heap := h', toks := tk }) :
    codeAny (model PySem.Challenge.rw_rg0222_01.row.prog w) A (.call (.ref 233) ⟨[.ref x, .none], []⟩) R s := by
  have hroom : A.depth < recursionLimit := Nat.lt_of_lt_of_le hA (Nat.le_of_ble_eq_true rfl)
  k_dflt (refine' enter (binds := [(Str.ofString "self", .ref x), (Str.ofString "hook", .none)]) [x, dx] X T.nolimit hB hO ?k6 ?k7 ?k8 ?k9 ?kB ?_ ?c5 ?c2 ?c3 ?c4; (case k6 => k_is); (case k7 => k_is); (case k8 => exact hroom); (case k9 => exact BindsTo.of_eq rfl); (case c5 => decide); (case kB => exact locs rfl); (case c2 => exact rfl); (case c3 => exact rfl); (case c4 => exact rfl))
  intro g L h₁ hg hL F hk₁ sg Xg
  have Tg := T.keeps sg
  have N := inst_news hg hL hk₁ hx hd
  have hxd := inst_ne hx hd
  have K0 := Keys.nil
  refine wpAny_mono (E := fun _ _ => False) ?_ (fun _ _ h => h) (fun _ _ h => h.elim)
  k_fold
  k_steps
  rename Fr _ _ _ _ => F2
  rename News _ _ _ _ => N2
  have N3 := N2
  clear N2
  refine call_cls F2 Xg N3 (by k_is) (by k_is) (by k_is) fun x2 d2 h3 F3 N4 l1 l2 => ?_
  refine heap_init_c Xg Tg (by exact F3.keep) (N4 _ (.head _)).1 (N4 _ (.tail _ (.head _))).1 (all_cons (news_pick 0 N4 rfl).2.2 (all_cons (news_pick 1 N4 rfl).2.2 all_nil)) (by exact Nat.lt_of_lt_of_le (Nat.succ_lt_succ (Nat.succ_lt_succ hA)) (Nat.le_of_ble_eq_true rfl)) fun h4 tk4 k4 => ⟨rfl, ?_⟩
  have F4 := fr_call F3 k4 (notin_cons (news_pick 1 N4 rfl).2.1.symm notin_nil) (all_cons (news_pick 1 N4 rfl).2.2 all_nil)
  have N5 := news_callA (news_from 2 N4) k4 (all_cons (notin_cons (Nat.ne_of_lt (l1 _ (.head _))) notin_nil) (all_cons (notin_cons (Nat.ne_of_lt (l1 _ (.tail _ (.head _)))) notin_nil) all_nil))
  clear F2 N3 F3 N4
  dsimp only
  k_steps
  rename Fr _ _ _ _ => F2
  rename News _ _ _ _ => N2
  exact hret _ _ _ _ (keep_dx hg F2 N2 (by k_mem) hx) (N2 (dx, _) (by k_mem)).1 (by assumption)
theorem search_init_c {A : Around} {R : Result → Shared → Prop} (X : (Mine.hd.heap_39 w.params).In B) (T : Tp mean mg mb B) (hB : B.StaysIn s.heap) {x dx : Addr} {pv : Value} (hx : s.heap.get? x = some (instObj 553 dx)) (hd : s.heap.get? dx = some (dictOf [] 0)) (hO : ∀ a ∈ [x, dx], B.get? a = none) (hA : A.depth < 500)
    (hret : ∀ h' tk, Keep [dx] s.heap h' → SearchAt h' x dx pv → R (.ok (.ret .none)) { s with heap := h', toks := tk }) :
    codeAny (model PySem.Challenge.rw_rg0222_01.row.prog w) A (.call (.ref 396) ⟨[.ref x, pv, .none], []⟩) R s := by
  have hroom : A.depth < recursionLimit := Nat.lt_of_lt_of_le hA (Nat.le_of_ble_eq_true rfl)
  k_dflt (refine' enterS (binds := [(Str.ofString "self", .ref x), (Str.ofString "proof", pv), (Str.ofString "hook", .none)]) [x, dx] X T.nolimit hB hO ?k6 ?k7 ?k8 ?k9 ?kB ?_ ?c5 ?c2 ?c3 ?c4; (case k6 => k_is); (case k7 => k_is); (case k8 => exact hroom); (case k9 => exact BindsTo.of_eq rfl); (case c5 => decide); (case kB => exact locs rfl); (case c2 => exact rfl); (case c3 => exact rfl); (case c4 => exact rfl))
  intro g L h₁ hg hL F hk₁ sg Xg
  have Tg := T.keeps sg
  have N := inst_news hg hL hk₁ hx hd
  have hxd := inst_ne hx hd
  have K0 := Keys.nil
  k_steps
  rename Fr _ _ _ _ => F2
  rename News _ _ _ _ => N2
  refine call_meth N2 (.head _) ?_
  have hl2 : ∀ a ∈ [x, dx], g.get? a = none := fun a m => hg ▸ hideAll_none _ m
  refine trail_init_c Xg Tg (by exact F2.keep) (N2 (x, _) (by k_mem)).1 (N2 (dx, _) (by k_mem)).1 hl2 (by show A.depth + 1 < 600; omega) fun h4 tk4 es4 n4 k4 hd4 K4 => ?_
  have hLd : L ≠ dx := fun e => (N (dx, _) (by k_mem)).2.1 e.symm
  have F4 := fr_call F2 k4 (fun m => hLd (List.mem_singleton.mp m)) (fun a m => hl2 a (.tail _ m))
  have N4 := news_pair (k4 _ _ (fun z => hxd (List.mem_singleton.mp z)) (N2 (x, _) (by k_mem)).1) hd4 (N (x, _) (by k_mem)).2 (N (dx, _) (by k_mem)).2
  clear F2 N2 F N K0
  dsimp only
  k_steps
  rename Fr _ _ _ _ => F5
  rename News _ _ _ _ => N5
  exact hret _ _ (keep_dx hg F5 N5 (by k_mem) hx) ⟨(N5 (x, _) (by k_mem)).1, _, _, (N5 (dx, _) (by k_mem)).1, by assumption, keys_absent (by assumption) (by decide)⟩
end
end SSrch
theorem word48 : True := by
  k_with_none
  k_with "call builtin:len" => (k_here; (with_reducible show wpAny _ _ (call (Value.builtin "len") [Value.ref _]) _ _ _); (with_unfolding_all refine' len_tupI ?k1 ?k2 ?k3 ?_; (case k1 => first | assumption | exact Fr.tup (by assumption) (by assumption)); (case k2 => l_ints); (case k3 => l_fit); k_whole))
  k_with "call builtin:len" => (k_here; (with_reducible show wpAny _ _ (call (Value.builtin "len") [Value.ref _]) _ _ _); (with_unfolding_all refine' len_lst ?k1 ?k3 ?_; (case k1 => exact News.isList (by k_asm) (by k_mem)); (case k3 => (simp only [List.length_map]; omega)); k_whole))
  k_with "subscriptTail" => (k_here; (with_reducible show wpAny _ _ (subscriptTail _ _ (Value.ref _) (Value.int _ _)) _ _ _); (with_unfolding_all refine' item_tuple_ints ?k1 ?k2 ?k3 ?k4 ?k5 ?_ ?k6 ?k7; (case k1 => first | assumption | exact Fr.tup (by assumption) (by assumption)); (case k2 => l_ints); (case k3 => omega); (case k4 => omega); (case k5 => omega); (case k6 => with_unfolding_all rfl); (case k7 => (intro _; with_unfolding_all rfl)); k_whole); intro _)
  k_with "subscriptTail" => (k_here; (with_reducible show wpAny _ _ (subscriptTail _ _ (Value.ref _) (Value.int _ _)) _ _ _); (with_unfolding_all refine' item_listR ?k1 ?k2 ?k3 ?k4 ?_ ?k6; (case k4 => assumption); (case k1 => exact News.isList (by k_asm) (by k_mem)); (case k2 => omega); (case k3 => omega); (case k6 => with_unfolding_all rfl); k_whole))
  k_with "exec For Name Name cons nil" => (k_here; (rename Fr _ _ _ _ => lF'); (with_unfolding_all refine' for_walksF lF' ?k1 ?k2 ?_; (case k1 => exact rfl); (case k2 => exact rfl); k_whole))
  k_with "exec For Name Call cons nil" => (k_here; (rename Fr _ _ _ _ => lF'); (with_unfolding_all refine' for_walksF lF' ?k1 ?k2 ?_; (case k1 => exact rfl); (case k2 => exact rfl); k_whole))
  trivial
section SNew
section
variable {w : World} {mean : ExcName → Option Value} {mg mb : Str → Option Value} {B : Heap} {s : Shared} {Q E : Value → Shared → Prop}
theorem fresh_of_hide {g h : Heap} {W : List Addr} {a : Addr} (hg : g = hideAll h W) (e : g.get? a = none) (n : a ∉ W) : h.get? a = none := by
  cases q : h.get? a with
  | none => rfl
  | some o => rw [hide1 hg q n] at e; cases e
theorem steps_init_c {A : Around} {R : Result → Shared → Prop} (X : (Mine.hd.heap_39 w.params).In B) (T : Tp mean mg mb B) (hB : B.StaysIn s.heap) {x dx : Addr} (hx : s.heap.get? x = some (instObj 705 dx)) (hd : s.heap.get? dx = some (dictOf [] 0)) (hO : ∀ a ∈ [x, dx], B.get? a = none) (hA : A.depth < 700)
    (hret : ∀ h' tk st nm em, Keep [dx] s.heap h' → ProofAt h' x dx st nm [] em → s.heap.get? st = none → R (.ok (.ret .none)) { s with heap := h', toks := tk }) :
    codeAny (model PySem.Challenge.rw_rg0222_01.row.prog w) A (.call (.ref 596) ⟨[.ref x], []⟩) R s := by
  have hroom : A.depth < recursionLimit := Nat.lt_of_lt_of_le hA (Nat.le_of_ble_eq_true rfl)
  k_dflt (refine' enter (binds := [(Str.ofString "self", .ref x)]) [x, dx] X T.nolimit hB hO ?k6 ?k7 ?k8 ?k9 ?kB ?_ ?c5 ?c2 ?c3 ?c4; (case k6 => k_is); (case k7 => k_is); (case k8 => exact hroom); (case k9 => exact BindsTo.of_eq rfl); (case c5 => decide); (case kB => exact locs rfl); (case c2 => exact rfl); (case c3 => exact rfl); (case c4 => exact rfl))
  intro g L h₁ hg hL F hk₁ sg Xg
  have Tg := T.keeps sg
  have N := inst_news hg hL hk₁ hx hd
  have hxd := inst_ne hx hd
  refine wpAny_mono (E := fun _ _ => False) ?_ (fun _ _ h => h) (fun _ _ h => h.elim)
  k_fold
  k_steps
  rename Fr _ _ _ _ => F2
  rename News _ _ _ _ => N2
  have e1 := (N2 _ (.tail _ (.head _))).1
  have e2 := (N2 _ (.tail _ (.tail _ (.head _)))).1
  have e3 := (N2 _ (.tail _ (.tail _ (.tail _ (.head _))))).1
  have e4 := (N2 _ (.tail _ (.head _))).2.2
  dsimp only at e1 e2 e3 e4
  refine hret _ _ _ _ _ (keep_dx hg F2 N2 (by k_mem) hx) ⟨e2, ⟨_, _, _, _, _, _, _, e3⟩, _, e1⟩ ?_
  refine fresh_of_hide hg e4 (fun m => ?_)
  rcases List.mem_cons.mp m with q | m
  · rw [q, e2] at e1
    exact absurd (show Value.ref 705 = Value.type "list" from congrArg Obj.cls (Option.some.inj e1)) (by intro q; cases q)
  · rw [List.mem_singleton.mp m, e3] at e1
    exact absurd (show Value.type "dict" = Value.type "list" from congrArg Obj.cls (Option.some.inj e1)) (by decide)
section
variable {prog : Program} {g : Heap} {L : Addr} {m : Str → Option Value} {news : List (Addr × Obj)}
theorem proof_new {A : Around} (F : Fr g L s.heap m) (X : (Mine.hd.heap_39 w.params).In g) (T : Tp mean mg mb g) (N : News g L s.heap news) (hA : A.depth < 690)
    (h : ∀ pr dp st nm n a1 a2 a3 t1 t2 t3 t4 em h' tk, Fr g L h' m → News g L h' (ledP pr dp st nm [] n a1 a2 a3 t1 t2 t3 t4 em ++ news) → (∀ q ∈ news, q.1 ∉ [st, pr, dp]) → pr ∉ [st, dp] → Q (.ref pr) { s with heap := h', toks := tk }) :
    wpAny (model PySem.Challenge.rw_rg0222_01.row.prog w) A (call (.ref 705) ([] ++ [])) Q E s := by
  refine call_cls F X N (by k_is) (by k_is) (by k_is) fun x dx h1 F1 N1 l1 l2 => ?_
  have e1 := N1 _ (.head _)
  have e2 := N1 _ (.tail _ (.head _))
  refine steps_init_c X T (by exact F1.keep) e1.1 e2.1 (fun a m => ?_) (by show A.depth + 1 < 700; omega) fun h2 tk2 st nm em k2 P2 f2 => ⟨rfl, ?_⟩
  · rcases List.mem_cons.mp m with rfl | m
    · exact e1.2.2
    · rw [List.mem_singleton.mp m]; exact e2.2.2
  obtain ⟨a1, a2, a3, t1, t2, t3, t4, hd⟩ := P2.dict
  obtain ⟨n, hl⟩ := P2.list
  have F2 := fr_call F1 k2 (fun m => e2.2.1 (List.mem_singleton.mp m).symm) (fun a m => by rw [List.mem_singleton.mp m]; exact e2.2.2)
  have nst : ∀ {a o}, h1.get? a = some o → a ≠ st := fun e z => by rw [z, f2] at e; cases e
  refine h x dx st nm n a1 a2 a3 t1 t2 t3 t4 em h2 tk2 F2 (fun q hq => ?_) (fun q hq m => ?_) fun m => ?_
  · rcases List.mem_append.mp hq with hq | hq
    · rcases List.mem_cons.mp hq with rfl | hq
      · obtain ⟨oL, es, ep, eL, _⟩ := F1.ns
        refine ⟨hl, fun z => nst eL z.symm, ?_⟩
        cases q : g.get? st with
        | none => rfl
        | some o => exact absurd rfl (nst (F1.keep _ _ q))
      rcases List.mem_cons.mp hq with rfl | hq
      · exact ⟨P2.inst, e1.2⟩
      rw [List.mem_singleton.mp hq]
      exact ⟨hd, e2.2⟩
    · have eq := N1 q (.tail _ (.tail _ hq))
      exact ⟨k2 _ _ (fun z => Nat.ne_of_lt (l1 q hq) (List.mem_singleton.mp z)) eq.1, eq.2⟩
  · have eq := N1 q (.tail _ (.tail _ hq))
    have l3 := l1 q hq
    simp only [List.mem_cons, List.not_mem_nil, or_false] at m
    rcases m with e | e | e
    · exact nst eq.1 e
    · rw [e] at l3; exact Nat.lt_asymm l3 l2
    · rw [e] at l3; exact Nat.lt_irrefl _ l3
  · simp only [List.mem_cons, List.not_mem_nil, or_false] at m
    rcases m with e | e
    · exact nst e1.1 e
    · rw [e] at l2; exact Nat.lt_irrefl _ l2
theorem search_new {A : Around} {pv : Value} (F : Fr g L s.heap m) (X : (Mine.hd.heap_39 w.params).In g) (T : Tp mean mg mb g) (N : News g L s.heap news) (hA : A.depth < 490)
    (h : ∀ x dx es n h' tk, Fr g L h' m → News g L h' ((x, instObj 553 dx) :: (dx, dictOf es n) :: news) → getL (Str.ofString "proof") es = some (some pv) → getL (Str.ofString "log_chain") es = some none → (∀ q ∈ news, q.1 < dx) → dx < x → Q (.ref x) { s with heap := h', toks := tk }) :
    wpAny (model PySem.Challenge.rw_rg0222_01.row.prog w) A (call (.ref 553) [pv, .none]) Q E s := by
  refine call_cls F X N (by k_is) (by k_is) (by k_is) fun x dx h1 F1 N1 l1 l2 => ?_
  have e1 := N1 _ (.head _)
  have e2 := N1 _ (.tail _ (.head _))
  refine search_init_c X T (by exact F1.keep) e1.1 e2.1 (fun a m => ?_) (by show A.depth + 1 < 500; omega) fun h2 tk2 k2 S2 => ⟨rfl, ?_⟩
  · rcases List.mem_cons.mp m with rfl | m
    · exact e1.2.2
    · rw [List.mem_singleton.mp m]; exact e2.2.2
  obtain ⟨es, n, hd, hp, hl⟩ := S2.dict
  have F2 := fr_call F1 k2 (fun m => e2.2.1 (List.mem_singleton.mp m).symm) (fun a m => by rw [List.mem_singleton.mp m]; exact e2.2.2)
  refine h x dx es n h2 tk2 F2 (fun q hq => ?_) hp hl l1 l2
  rcases List.mem_cons.mp hq with rfl | hq
  · exact ⟨S2.inst, e1.2⟩
  rcases List.mem_cons.mp hq with rfl | hq
  · exact ⟨hd, e2.2⟩
  have eq := N1 q (.tail _ (.tail _ hq))
  exact ⟨k2 _ _ (fun z => Nat.ne_of_lt (l1 q hq) (List.mem_singleton.mp z)) eq.1, eq.2⟩
end
end
end SNew
section SLawL
def notIt (o : Obj) : Prop := o.cls ≠ .type "range_iterator"
inductive LoopBT (g : Heap) (L I : Addr) (oI : Obj) (s : Heap → Nat → Shared) (J : (Str → Option Value) → List (Addr × Obj) → Prop) (s₂ : Shared) : Prop
  | mk (h' : Heap) (tk' : Nat) (m₂ : Str → Option Value) (news₂ : List (Addr × Obj)) : s₂ = s h' tk' → Fr g L h' m₂ → h'.get? I = some oI → News g L h' news₂ → (∀ p ∈ news₂, notIt p.2) → J m₂ news₂ → LoopBT g L I oI s J s₂
def TEnd (g : Heap) (L I : Addr) (oI : Obj) (s : Shared) (J : (Str → Option Value) → List (Addr × Obj) → Prop) (Q : Flow → Shared → Prop) (f : Flow) (s₂ : Shared) : Prop :=
  match f with
        | .ret v => Q (.ret v) s₂
        | .brk => Q .next s₂
        | _ => LoopBT g L I oI (Shared.up s) J s₂
/-- the walk of a for over a range: what its iterator is, is known -/
inductive LoopT (prog : Program) (w : World) (A : Around) (g : Heap) (env : Env) (x : Str) (body : List Stmt) (Q : Flow → Shared → Prop) (it : Value) (s : Shared) : Prop
  | mk : ∀ (I : Addr) (fp : List Addr) (n : Nat) (P : Nat → Value → Prop) (St : Nat → Heap → Prop) (m : Str → Option Value) (news : List (Addr × Obj)) (J : Nat → (Str → Option Value) → List (Addr × Obj) → Prop), it = .ref I → Walks prog w A I fp [I] n P St → (∀ b ∈ fp, b = I ∨ ∃ o, g.get? b = some o) → I ≠ env.locals → g.get? I = none → St 0 s.heap → (∀ i h, St i h → ∃ o, h.get? I = some o ∧ ¬ notIt o) → Fr g env.locals s.heap m → News g env.locals s.heap news → (∀ p ∈ news, notIt p.2) → J 0 m news → (∀ i v m₁ news₁ h tk oI, i < n → P i v → J i m₁ news₁ → (∀ p ∈ news₁, notIt p.2) → ¬ notIt oI → Fr g env.locals h (fun y => if y = x then some v else m₁ y) → News g env.locals h ((I, oI) :: news₁) → wpAny (model prog w) A (execs body env) (TEnd g env.locals I oI s (J (i + 1)) Q) (fun _ _ => False) { s with heap := h, toks := tk }) → (∀ h tk m₁ news₁, Fr g env.locals h m₁ → News g env.locals h news₁ → (∀ p ∈ news₁, notIt p.2) → J n m₁ news₁ → Q .next { s with heap := h, toks := tk }) → LoopT prog w A g env x body Q it s
section
variable {prog : Program} {w : World} {A : Around} {E : Value → Shared → Prop} {s : Shared} {env : Env} {g : Heap}
inductive LoopWT (g : Heap) (L : Addr) (s₂ : Shared) (St : Nat → Heap → Prop) (J : Nat → (Str → Option Value) → List (Addr × Obj) → Prop) (n k : Nat) (s' : Shared) : Prop
  | mk (h' : Heap) (tk' : Nat) (m' : Str → Option Value) (news' : List (Addr × Obj)) (i : Nat) : s' = { s₂ with heap := h', toks := tk' } → St i h' → Fr g L h' m' → News g L h' news' → (∀ p ∈ news', notIt p.2) → J i m' news' → i ≤ n → k = n + 1 - i → LoopWT g L s₂ St J n k s'
theorem not_it {h : Heap} {I : Addr} {oI : Obj} (e : h.get? I = some oI) (hI : ¬ notIt oI) {p : Addr × Obj} (hp : h.get? p.1 = some p.2) (n : notIt p.2) : p.1 ≠ I := fun z => by
  rw [z, e] at hp; cases hp; exact hI n
theorem for_walksT {x : Str} {px pos : Pos} {iter : Expr} {body : List Stmt} {Q : Flow → Shared → Prop} (g : Heap) (hx : env.kindOf x = some .local)
    (hp : (env.scope.kind == .class || (env.scope.kind == .module && env.locals != env.globals)) = false)
    (h : wpAny (model prog w) A (eval iter env) (fun xv s₁ => wpAny (model prog w) A (pyIter xv) (fun it s₂ => LoopT prog w A g env x body Q it s₂) E s₁) E s)
    (hs : ∀ x, foldedSetIterable iter env x = pure x := by intro _; rfl) :
    wpAny (model prog w) A (exec (.For (.Name x px) iter body [] pos) env) Q E s := by
  refine wpAny_For (wpAny_mono h (fun xv s₁ h₁ => wpAny_mono h₁ (fun it s₂ h₂ => ?_) fun _ _ e => e) fun _ _ e => e) hs
  obtain ⟨I, fp, n, P, St, m, news, J, rfl, W, hfp, hIL, hIg, hst, hlive, F, N, hnI, hJ, turn, done⟩ := h₂
  refine codeAny_forLoop (LoopWT g env.locals s₂ St J n) ?_ (n + 1)
    ⟨s₂.heap, s₂.toks, m, news, 0, rfl, hst, F, N, hnI, hJ, Nat.zero_le _, rfl⟩
  rintro k s' ⟨h', tk', m', news', i, rfl, hst', F', N', hn', hJ', hi, rfl⟩
  have step : ∀ h₁ : Heap, (∀ b o, b ∉ [I] → h'.get? b = some o → h₁.get? b = some o) → Fr g env.locals h₁ m' ∧ News g env.locals h₁ news' := fun h₁ hk => by
    obtain ⟨oI, hoI, zI⟩ := hlive _ _ hst'
    refine ⟨fr_call (W := [I]) F' (fun b o nb e => hk b o nb e) (by simpa using Ne.symm hIL) (by simpa using hIg), news_call (W := [I]) N' (fun b o nb e => hk b o nb e) fun p hp => .inl ⟨hp, by simpa using not_it hoI zI (N' p hp).1 (hn' p hp)⟩⟩
  by_cases hlt : i < n
  · refine W.item i _ _ _ hlt hst' fun v h₁ tk₁ hPv hst₁ hk₁ => ?_
    obtain ⟨F₁, N₁⟩ := step h₁ hk₁
    refine wpAny_assign_Name (wpAny_storeName_local hx F₁.ns (fun h₂ hn₂ hs₂ => ?_) hp)
    have F₂ := F₁.set hn₂ hs₂
    have N₂ := N₁.set hs₂
    have hI₂ : ∀ o, h₁.get? I = some o → h₂.get? I = some o := fun o e => (hs₂.2 I hIL).trans e
    have hst₂ : St (i + 1) h₂ := W.frame _ _ _ hst₁ fun b hb o e => by
      rcases hfp b hb with rfl | ⟨o', ho'⟩
      · exact hI₂ o e
      · have e1 := F₁.keep b o' ho'
        rw [e] at e1
        cases e1
        exact F₂.keep b o ho'
    obtain ⟨oI, hoI, zI⟩ := hlive _ _ hst₂
    have NI : News g env.locals h₂ ((I, oI) :: news') := fun p hp => by
      rcases List.mem_cons.mp hp with rfl | hp
      · exact ⟨hoI, hIL, hIg⟩
      · exact N₂ p hp
    refine wpAny_mono (turn i v m' news' h₂ _ oI hlt hPv hJ' hn' zI F₂ NI) (fun f s₃ h₃ => ?_) fun _ _ f => f.elim
    have fin : LoopBT g env.locals I oI (Shared.up s₂) (J (i + 1)) s₃ → ∃ m, m < n + 1 - i ∧ LoopWT g env.locals s₂ St J n m s₃ := by
      rintro ⟨h₄, tk₄, m₄, news₄, rfl, F₄, e₄, N₄, hn₄, hJ₄⟩
      refine ⟨n + 1 - (i + 1), by omega, h₄, tk₄, m₄, news₄, i + 1, rfl, ?_, F₄, N₄, hn₄, hJ₄, hlt, rfl⟩
      refine W.frame _ _ _ hst₂ fun b hb o e => ?_
      rcases hfp b hb with rfl | ⟨o', ho'⟩
      · rw [hoI] at e; cases e; exact e₄
      · have e1 := F₂.keep b o' ho'
        rw [e] at e1
        cases e1
        exact F₄.keep b o ho'
    cases f with
    | ret v => exact h₃
    | brk => exact h₃
    | next => exact fin h₃
    | cont => exact fin h₃
  · have hin : i = n := by omega
    subst hin
    refine W.done _ _ _ hst' fun h₁ tk₁ hk₁ => ?_
    obtain ⟨F₁, N₁⟩ := step h₁ hk₁
    exact wpAny_execs_nil (done h₁ tk₁ m' news' F₁ N₁ hn' hJ')
theorem for_walksTF {x : Str} {px pos : Pos} {iter : Expr} {body : List Stmt} {Q : Flow → Shared → Prop} {m : Str → Option Value} (_F : Fr g env.locals s.heap m) (hx : env.kindOf x = some .local)
    (hp : (env.scope.kind == .class || (env.scope.kind == .module && env.locals != env.globals)) = false)
    (h : wpAny (model prog w) A (eval iter env) (fun xv s₁ => wpAny (model prog w) A (pyIter xv) (fun it s₂ => LoopT prog w A g env x body Q it s₂) E s₁) E s)
    (hs : ∀ x, foldedSetIterable iter env x = pure x := by intro _; rfl) :
    wpAny (model prog w) A (exec (.For (.Name x px) iter body [] pos) env) Q E s := for_walksT g hx hp h hs
theorem iter_rngT {x : Str} {body : List Stmt} {Q : Flow → Shared → Prop} {r : Addr} {n : Nat} {t u v : Tok} {m : Str → Option Value} {news : List (Addr × Obj)} (J : Nat → (Str → Option Value) → List (Addr × Obj) → Prop)
    (hh : A.handled = none) (hr : IsRange s.heap r 0 (n : Int) 1 t u v) (hsz : n < 1000000) (F : Fr g env.locals s.heap m) (N : News g env.locals s.heap news) (hn : ∀ p ∈ news, notIt p.2) (hJ : J 0 m news)
    (turn : ∀ I (i : Nat) ti m₁ news₁ h tk oI, i < n → J i m₁ news₁ → (∀ p ∈ news₁, notIt p.2) → ¬ notIt oI → Fr g env.locals h (fun y => if y = x then some (.int (i : Int) ti) else m₁ y) → News g env.locals h ((I, oI) :: news₁) →
      wpAny (model prog w) A (execs body env) (TEnd g env.locals I oI s (J (i + 1)) Q) (fun _ _ => False) { s with heap := h, toks := tk })
    (done : ∀ h tk m₁ news₁, Fr g env.locals h m₁ → News g env.locals h news₁ → (∀ p ∈ news₁, notIt p.2) → J n m₁ news₁ → Q .next { s with heap := h, toks := tk }) :
    wpAny (model prog w) A (pyIter (.ref r)) (fun it s₂ => LoopT prog w A g env x body Q it s₂) E s := by
  have hz : Builtin.Range.rangeSize 0 (n : Int) 1 = (n : Int) := by
    unfold Builtin.Range.rangeSize
    split <;> simp_all <;> omega
  have hs : Builtin.Range.small 0 (n : Int) 1 = true := by
    unfold Builtin.Range.small Builtin.Range.rangeFitsLong
    simp only [hz]
    simp
    omega
  refine wpAny_pyIter_range hr hs ?_
  have W := (Walks.range (prog := prog) (w := w) hh s.heap.objs.size 0 1 n)
  refine ⟨_, _, _, _, _, m, news, J, rfl, W, ?_, Nat.ne_of_gt F.ns.lt, F.fresh, ?_, ?_, F.push _, fun p hp => ⟨Heap.get?_push_of_some _ (N p hp).1, (N p hp).2⟩, hn, hJ, ?_, ?_⟩
  · intro b hb
    exact .inl (List.mem_singleton.mp hb)
  · show IsRangeIter _ _ _ _ _
    rw [hz]
    simpa using Heap.get?_push_size _ rfl
  · intro i h st
    exact ⟨_, st, fun z => z rfl⟩
  · rintro i v m₁ news₁ h tk oI hi ⟨ti, rfl⟩ hJ₁ hn₁ zI F₁ N₁
    have e : (0 + (i : Int) * 1) = (i : Int) := by omega
    rw [e] at F₁
    exact wpAny_mono (turn _ i ti m₁ news₁ h tk oI hi hJ₁ hn₁ zI F₁ N₁) (fun f s₂ z => by cases f <;> exact z) fun _ _ x => x
  · intro h tk m₁ news₁ F₁ N₁ hn₁ hJ₁
    exact done h tk m₁ news₁ F₁ N₁ hn₁ hJ₁
end
/-- what stands in the base or in a ledger of its own, no range's iterator in it -/
inductive PinC (g : Heap) (L : Addr) (h : Heap) (P : Heap → Prop) : Prop
  | mk : ∀ (x), News g L h x → (∀ q ∈ x, notIt q.2) → (∀ h' m', Fr g L h' m' → News g L h' x → P h') → PinC g L h P
section
variable {g h : Heap} {L a : Addr} {m : Str → Option Value} {P Q : Heap → Prop}
theorem PinC.and (p : PinC g L h P) (q : PinC g L h Q) : PinC g L h (fun h => P h ∧ Q h) :=
  let ⟨x, n, a, f⟩ := p; let ⟨y, k, b, e⟩ := q
  ⟨x ++ y, fun r m => (List.mem_append.mp m).elim (n r) (k r), fun r m => (List.mem_append.mp m).elim (a r) (b r), fun h' m' F N => ⟨f h' m' F fun r m => N r (List.mem_append_left _ m), e h' m' F fun r m => N r (List.mem_append_right _ m)⟩⟩
theorem PinC.imp (p : PinC g L h P) (i : ∀ h, P h → Q h) : PinC g L h Q := let ⟨x, n, a, f⟩ := p; ⟨x, n, a, fun h' m' F N => i h' (f h' m' F N)⟩
theorem pinC_true : PinC g L h fun _ => True := ⟨[], fun _ m => (nomatch m), fun _ m => (nomatch m), fun _ _ _ _ => trivial⟩
theorem pinC_obj {o : Obj} (F : Fr g L h m) (e : h.get? a = some o) (n : a ≠ L) (c : notIt o) : PinC g L h fun h => h.get? a = some o := by
  cases q : g.get? a with
  | some o' =>
    have e' := F.keep _ _ q
    rw [e] at e'
    cases e'
    exact ⟨[], fun _ m => (nomatch m), fun _ m => (nomatch m), fun h' m' F' _ => F'.keep _ _ q⟩
  | none =>
    refine ⟨[(a, o)], fun r mm => ?_, fun r mm => ?_, fun h' m' _ N => (N _ (.head _)).1⟩
    · rw [List.mem_singleton.mp mm]; exact ⟨e, n, q⟩
    · rw [List.mem_singleton.mp mm]; exact c
theorem ns_ne {o : Obj} (F : Fr g L h m) (e : h.get? a = some o) (hd : ∀ es ep, o.data ≠ .dict es ep) : a ≠ L := fun z => by
  obtain ⟨oL, es, ep, eL, dL, _⟩ := F.ns
  rw [z, eL] at e
  cases e
  exact hd _ _ dL
theorem pinC_tup {vs : Array Value} (F : Fr g L h m) (t : IsTup h a vs) : PinC g L h fun h => IsTup h a vs := by
  obtain ⟨o, ho, hc, n, hd⟩ := t
  exact (pinC_obj F ho (ns_ne F ho fun _ _ q => by rw [hd] at q; cases q) (fun q => by rw [hc] at q; exact absurd q (by decide))).imp fun h e => ⟨o, e, hc, n, hd⟩
theorem pinC_list {vs : Array Value} (F : Fr g L h m) (t : h.IsList a vs) : PinC g L h fun h => h.IsList a vs := by
  obtain ⟨o, ho, hc, n, hd⟩ := t
  exact (pinC_obj F ho (ns_ne F ho fun _ _ q => by rw [hd] at q; cases q) (fun q => by rw [hc] at q; exact absurd q (by decide))).imp fun h e => ⟨o, e, hc, n, hd⟩
theorem pinC_tupi {xs : List Int} (F : Fr g L h m) (t : TupInts h a xs) : PinC g L h fun h => TupInts h a xs := let ⟨vs, iv, t⟩ := t; (pinC_tup F t).imp fun _ t => ⟨vs, iv, t⟩
theorem pinC_seq {xs : List Int} (F : Fr g L h m) (t : SeqInts h a xs) : PinC g L h fun h => SeqInts h a xs := by
  obtain ⟨vs, iv, t | t⟩ := t
  · exact (pinC_list F t).imp fun _ t => ⟨vs, iv, .inl t⟩
  · exact (pinC_tup F t).imp fun _ t => ⟨vs, iv, .inr t⟩
theorem pinC_step {c : List Int} (F : Fr g L h m) (t : StepAt h a c) : PinC g L h fun h => StepAt h a c :=
  let ⟨rv, ca, pv, nv, t, u⟩ := t; ((pinC_tup F t).and (pinC_tupi F u)).imp fun _ t => ⟨rv, ca, pv, nv, t.1, t.2⟩
theorem pinC_steps {as : List Addr} {cls : List (List Int)} (F : Fr g L h m) (x : StepsAt h as cls) : PinC g L h fun h => StepsAt h as cls := by
  induction as generalizing cls with
  | nil => cases cls with
    | nil => exact pinC_true.imp fun _ _ => .nil
    | cons => have := x.len; cases this
  | cons a as ih => cases cls with
    | nil => have := x.len; cases this
    | cons c cls => exact ((pinC_step F x.uncons.1).and (ih x.uncons.2)).imp fun _ t => StepsAt.cons t.1 t.2
theorem pinC_pairsV {vs : List Value} {ps : List (Int × Int)} (F : Fr g L h m) (pv : PairsV h vs ps) : PinC g L h fun h => PairsV h vs ps := by
  suffices H : ∀ n, n ≤ ps.length → PinC g L h fun h => ∀ (i : Nat) p, i < n → ps[i]? = some p → PairIs h vs i p from
    (H ps.length (Nat.le_refl _)).imp fun h' x => ⟨pv.1, fun i p e => x i p (List.getElem?_eq_some_iff.mp e).1 e⟩
  intro n
  induction n with
  | zero => intro _; exact pinC_true.imp fun _ _ i p hi => absurd hi (Nat.not_lt_zero _)
  | succ n ih =>
    intro hn
    obtain ⟨q, t, u, e, ht⟩ := pv.2 n ps[n] (List.getElem?_eq_getElem hn)
    refine ((ih (Nat.le_of_succ_le hn)).and (pinC_tup F ht)).imp fun h' x i p hi e' => ?_
    rcases Nat.lt_succ_iff_lt_or_eq.mp hi with z | z
    · exact x.1 i p z e'
    · subst z
      rw [List.getElem?_eq_getElem hn] at e'
      cases e'
      exact ⟨q, t, u, e, x.2⟩
theorem pinC_pairs {pa : Addr} {ps : List (Int × Int)} (F : Fr g L h m) (x : PairsAt h pa ps) : PinC g L h fun h => PairsAt h pa ps :=
  let ⟨vs, l, pv⟩ := x; ((pinC_list F l).and (pinC_pairsV F pv)).imp fun _ t => ⟨vs, t.1, t.2⟩
theorem pinC_here {v : Value} {o : Option (List Int)} (F : Fr g L h m) (x : HereAt h v o) : PinC g L h fun h => HereAt h v o := by
  cases o with
  | none => exact pinC_true.imp fun _ _ => x
  | some xs => obtain ⟨a, e, t⟩ := x; exact (pinC_tupi F t).imp fun _ t => ⟨a, e, t⟩
theorem pinC_search {core dc : Addr} {pv : Value} (F : Fr g L h m) (x : SearchAt h core dc pv) (n : dc ≠ L) : PinC g L h fun h => SearchAt h core dc pv := by
  obtain ⟨es, k, e, p, l⟩ := x.dict
  exact ((pinC_obj F x.inst (ns_ne F x.inst fun _ _ q => by cases q) (by intro q; cases q)).and (pinC_obj F e n (fun q => absurd q (show Value.type "dict" ≠ Value.type "range_iterator" by decide)))).imp fun h t => ⟨t.1, es, k, t.2, p, l⟩
theorem pinC_proof {pr dp st nm : Addr} {as : List Addr} {em : Int} (F : Fr g L h m) (P : ProofAt h pr dp st nm as em) (n : dp ≠ L) : PinC g L h fun h => ProofAt h pr dp st nm as em := by
  obtain ⟨a1, a2, a3, t1, t2, t3, t4, e⟩ := P.dict
  obtain ⟨k, l⟩ := P.list
  exact ((pinC_obj F P.inst (ns_ne F P.inst fun _ _ q => by cases q) (by intro q; cases q)).and ((pinC_obj F e n (fun q => absurd q (show Value.type "dict" ≠ Value.type "range_iterator" by decide))).and (pinC_obj F l (ns_ne F l fun _ _ q => by cases q) (fun q => absurd q (show Value.type "list" ≠ Value.type "range_iterator" by decide))))).imp
    fun h t => ⟨t.1, ⟨a1, a2, a3, t1, t2, t3, t4, t.2.1⟩, k, t.2.2⟩
theorem pinC_cup {w : World} {c cells : Addr} {i : Int} (F : Fr g L h m) (x : CupAt w h c cells i) (n : c ≠ L) : PinC g L h fun h => CupAt w h c cells i := by
  obtain ⟨oc, t, e, hd⟩ := x
  obtain ⟨_, _, hx, _⟩ := id hd
  exact (pinC_obj F e n (fun q => by rw [hx.1] at q; exact absurd q (by decide))).imp fun h e => ⟨oc, t, e, hd⟩
end
end SLawL
section SLawS
/-- the law's things, each apart -/
structure LawNe (L core dc plain dq pr dp st c cells : Addr) : Prop where
  cW : c ∉ [core, dc, plain, dq, st, pr, dp, cells, L]
  cellsW : cells ∉ [c, st, pr, dp]
  pW : ∀ a ∈ [core, dc, plain, dq, c, cells], a ∉ [st, dp, L]
  dcW : dc ∉ [st, pr, dp, L]
  dqW : dq ∉ [st, pr, dp, L]
  LW : L ∉ [c, st, pr, dp]
  prW : pr ∉ [st, dp, L]
theorem notin_app {α : Type} {a : α} {l r : List α} (h : a ∉ l) (t : a ∉ r) : a ∉ l ++ r := fun m => (List.mem_append.mp m).elim h t
theorem all_map {P : Addr → Prop} {l : List (Addr × Obj)} (h : ∀ q ∈ l, P q.1) : ∀ a ∈ l.map Prod.fst, P a := fun a m => by
  obtain ⟨q, hq, e⟩ := List.mem_map.mp m
  exact e ▸ h q hq
theorem frs_1 {eI : Env} {L : Addr} (hI : eI.frame = some L) : Frs [eI] = [L] := by rw [frs_push hI]; rfl
/-- the law's state -/
structure LawAt (w : World) (h : Heap) (core dc plain dq pr dp st nm c cells : Addr) (xs : List Int) (as : List Addr) (cls : List (List Int)) (em idx : Int) : Prop where
  SA : SearchAt h core dc (.ref pr)
  SB : SearchAt h plain dq .none
  P : ProofAt h pr dp st nm as em
  S : StepsAt h as cls
  cup : CupAt w h c cells idx
  cellsAt : SeqInts h cells xs
section
variable {w : World} {g h h' : Heap} {L core dc plain dq pr dp st nm c cells : Addr} {xs : List Int} {as : List Addr} {cls : List (List Int)} {em idx : Int} {m : Str → Option Value}
theorem pinC_law (F : Fr g L h m) (n : LawNe L core dc plain dq pr dp st c cells) (x : LawAt w h core dc plain dq pr dp st nm c cells xs as cls em idx) : PinC g L h fun h => LawAt w h core dc plain dq pr dp st nm c cells xs as cls em idx := by
  have f : ∀ {a : Addr}, a ∈ [c, st, pr, dp] → a ≠ L := fun q z => n.LW (z ▸ q)
  have t := (pinC_search F x.SA fun z => n.dcW (z ▸ .tail _ (.tail _ (.tail _ (.head _))))).and ((pinC_search F x.SB fun z => n.dqW (z ▸ .tail _ (.tail _ (.tail _ (.head _))))).and ((pinC_proof F x.P (f (.tail _ (.tail _ (.tail _ (.head _)))))).and ((pinC_steps F x.S).and ((pinC_cup F x.cup (f (.head _))).and (pinC_seq F x.cellsAt)))))
  exact t.imp fun h t => ⟨t.1, t.2.1, t.2.2.1, t.2.2.2.1, t.2.2.2.2.1, t.2.2.2.2.2⟩
theorem SearchAt.keepW {W : List Addr} {pv : Value} (k : Keep W h h') (n1 : core ∉ W) (n2 : dc ∉ W) (x : SearchAt h core dc pv) : SearchAt h' core dc pv :=
  ⟨k _ _ n1 x.inst, by cases x.dict with | mk es n e r1 r2 => exact ⟨es, n, k _ _ n2 e, r1, r2⟩⟩
theorem cup_notup {i : Int} (x : CupAt w h c cells i) : ∀ b ∈ [c], ∀ vs, ¬ IsTup h b vs := fun b hb vs t => by
  obtain ⟨oc, tc, hoc, hdc⟩ := x
  obtain ⟨o, ho, _, n, hd⟩ := t
  obtain ⟨es, ep, _, hd', _⟩ := hdc
  rw [List.mem_singleton.mp hb, hoc] at ho
  cases ho
  rw [hd] at hd'
  cases hd'
theorem LawAt.keep_c {i' : Int} (n : LawNe L core dc plain dq pr dp st c cells) (k : Keep [c] h h') (x : LawAt w h core dc plain dq pr dp st nm c cells xs as cls em idx) (y : CupAt w h' c cells i') : LawAt w h' core dc plain dq pr dp st nm c cells xs as cls em i' := by
  have f : ∀ {a : Addr}, a ∈ [core, dc, plain, dq, st, pr, dp, cells, L] → a ∉ [c] := fun q => notin_cons (fun z => n.cW (z ▸ q)) notin_nil
  exact ⟨x.SA.keepW k (f (.head _)) (f (.tail _ (.head _))), x.SB.keepW k (f (.tail _ (.tail _ (.head _)))) (f (.tail _ (.tail _ (.tail _ (.head _))))),
    x.P.keepN k (fun b hb => f (.tail _ (.tail _ (.tail _ (.tail _ (List.mem_append_left [cells, L] hb)))))), x.S.keepN k (cup_notup x.cup), y, x.cellsAt.keep k (f (List.mem_of_getElem? (i := 7) rfl))⟩
theorem LawAt.keep_p {W : List Addr} {bs : List Addr} {ds : List (List Int)} {em' : Int} (n : LawNe L core dc plain dq pr dp st c cells) (hW : ∀ a ∈ W, a ∈ [st, dp, L]) (k : Keep W h h') (x : LawAt w h core dc plain dq pr dp st nm c cells xs as cls em idx)
    (P : ProofAt h' pr dp st nm (as ++ bs) em') (S : StepsAt h' (as ++ bs) (cls ++ ds)) : LawAt w h' core dc plain dq pr dp st nm c cells xs (as ++ bs) (cls ++ ds) em' idx := by
  have f : ∀ a ∈ [core, dc, plain, dq, c, cells], a ∉ W := fun a m z => n.pW a m (hW a z)
  exact ⟨x.SA.keepW k (f _ (.head _)) (f _ (.tail _ (.head _))), x.SB.keepW k (f _ (.tail _ (.tail _ (.head _)))) (f _ (.tail _ (.tail _ (.tail _ (.head _))))), P, S, by cases x.cup with | mk oc t e r => exact ⟨oc, t, k _ _ (f _ (.tail _ (.tail _ (.tail _ (.tail _ (.head _)))))) e, r⟩, x.cellsAt.keep k (f _ (.tail _ (.tail _ (.tail _ (.tail _ (.tail _ (.head _)))))))⟩
end
theorem law_ne {g h : Heap} {L core dc plain dq pr dp st c cells : Addr} {m : Str → Option Value} {x : List (Addr × Obj)} {oc : Obj} (F : Fr g L h m) (e : ∀ a ∈ [core, dc, plain, dq, pr, dp, st, c], a ≠ L ∧ g.get? a = none) (N : News g L h x)
    (l1 : ∀ a ∈ [st, pr, dp, c] ++ x.map Prod.fst, a < dc) (l2 : dc < core) (l3 : ∀ a ∈ [core, dc, st, pr, dp, c] ++ x.map Prod.fst, a < dq) (l4 : dq < plain) (n1 : ∀ a ∈ c :: x.map Prod.fst, a ∉ [st, pr, dp]) (n2 : pr ∉ [st, dp]) (n3 : dp ≠ st)
    (hx : (x = [] ∧ ∃ o, g.get? cells = some o) ∨ ((∃ oc, x = [(cells, oc)]) ∧ ∀ q ∈ [(c, oc)], q.1 ≠ cells)) : LawNe L core dc plain dq pr dp st c cells := by
  have lt : ∀ {a b : Addr}, a < b → a ≠ b := fun p q => Nat.lt_irrefl _ (q ▸ p)
  have gt : ∀ {a b : Addr}, a < b → b ≠ a := fun p q => Nat.lt_irrefl _ (q ▸ p)
  have n1c := n1 c (.head _)
  have hc : cells ≠ L ∧ ∀ a ∈ [core, dc, plain, dq, pr, dp, st, c], a ≠ cells := by
    rcases hx with ⟨_, o, ho⟩ | ⟨⟨o, rfl⟩, hne⟩
    · exact ⟨fun z => Nat.lt_irrefl _ (Nat.lt_of_lt_of_le (Heap.lt_size ho) (z ▸ F.above)), fun a m z => by rw [← z, (e a m).2] at ho; cases ho⟩
    · have hN := N _ (.head _)
      have k1 := l1 cells (.tail _ (.tail _ (.tail _ (.tail _ (.head _)))))
      have k3 := l3 cells (.tail _ (.tail _ (.tail _ (.tail _ (.tail _ (.tail _ (.head _)))))))
      have kn := n1 cells (.tail _ (.head _))
      exact ⟨hN.2.1, all_cons (gt (Nat.lt_trans k1 l2)) (all_cons (gt k1) (all_cons (gt (Nat.lt_trans k3 l4)) (all_cons (gt k3) (all_cons (fun z => kn (z ▸ .tail _ (.head _))) (all_cons (fun z => kn (z ▸ .tail _ (.tail _ (.head _)))) (all_cons (fun z => kn (z ▸ .head _)) (all_cons (hne _ (.head _)) all_nil)))))))⟩
  have d1 := l1 st (.head _)
  have d2 := l1 pr (.tail _ (.head _))
  have d3 := l1 dp (.tail _ (.tail _ (.head _)))
  have d4 := l1 c (.tail _ (.tail _ (.tail _ (.head _))))
  have f3 := l3 st (.tail _ (.tail _ (.head _)))
  have f4 := l3 pr (.tail _ (.tail _ (.tail _ (.head _))))
  have f5 := l3 dp (.tail _ (.tail _ (.tail _ (.tail _ (.head _)))))
  have f6 := l3 c (.tail _ (.tail _ (.tail _ (.tail _ (.tail _ (.head _))))))
  have e1 := (e core (.head _)).1
  have e2 := (e dc (.tail _ (.head _))).1
  have e3 := (e plain (.tail _ (.tail _ (.head _)))).1
  have e4 := (e dq (.tail _ (.tail _ (.tail _ (.head _))))).1
  have e5 := (e pr (.tail _ (.tail _ (.tail _ (.tail _ (.head _)))))).1
  have e6 := (e dp (.tail _ (.tail _ (.tail _ (.tail _ (.tail _ (.head _))))))).1
  have e7 := (e st (.tail _ (.tail _ (.tail _ (.tail _ (.tail _ (.tail _ (.head _)))))))).1
  have e8 := (e c (.tail _ (.tail _ (.tail _ (.tail _ (.tail _ (.tail _ (.tail _ (.head _))))))))).1
  have cpr := hc.2 pr (.tail _ (.tail _ (.tail _ (.tail _ (.head _)))))
  have cdp := hc.2 dp (.tail _ (.tail _ (.tail _ (.tail _ (.tail _ (.head _))))))
  have cst := hc.2 st (.tail _ (.tail _ (.tail _ (.tail _ (.tail _ (.tail _ (.head _)))))))
  have cc := hc.2 c (.tail _ (.tail _ (.tail _ (.tail _ (.tail _ (.tail _ (.tail _ (.head _))))))))
  have three : ∀ {a : Addr}, a ≠ st → a ≠ dp → a ≠ L → a ∉ [st, dp, L] := fun x y z => notin_cons x (notin_cons y (notin_cons z notin_nil))
  exact ⟨notin_cons (lt (Nat.lt_trans d4 l2)) (notin_cons (lt d4) (notin_cons (lt (Nat.lt_trans f6 l4)) (notin_cons (lt f6) (notin_app (l := [st, pr, dp]) n1c (notin_cons cc (notin_cons e8 notin_nil)))))),
    notin_cons cc.symm (notin_cons cst.symm (notin_cons cpr.symm (notin_cons cdp.symm notin_nil))),
    all_cons (three (gt (Nat.lt_trans d1 l2)) (gt (Nat.lt_trans d3 l2)) e1) (all_cons (three (gt d1) (gt d3) e2) (all_cons (three (gt (Nat.lt_trans f3 l4)) (gt (Nat.lt_trans f5 l4)) e3) (all_cons (three (gt f3) (gt f5) e4) (all_cons (three (fun z => n1c (z ▸ .head _)) (fun z => n1c (z ▸ .tail _ (.tail _ (.head _)))) e8) (all_cons (three cst.symm cdp.symm hc.1) all_nil))))),
    notin_cons (gt d1) (notin_cons (gt d2) (notin_cons (gt d3) (notin_cons e2 notin_nil))), notin_cons (gt f3) (notin_cons (gt f4) (notin_cons (gt f5) (notin_cons e4 notin_nil))),
    notin_cons e8.symm (notin_cons e7.symm (notin_cons e5.symm (notin_cons e6.symm notin_nil))), notin_app (l := [st, dp]) n2 (notin_cons e5 notin_nil)⟩
theorem it_ne_cup {w : World} {h : Heap} {c cells I : Addr} {i : Int} {oI : Obj} (x : CupAt w h c cells i) (e : h.get? I = some oI) (zI : ¬ notIt oI) : I ∉ [c] := fun m => by
  obtain ⟨oc, _, hoc, _, _, hx, _⟩ := x
  rw [List.mem_singleton.mp m, hoc] at e
  cases e
  exact zI fun q => by rw [hx.1] at q; exact absurd q (by decide)
theorem it_ne_p {h : Heap} {pr dp st nm I : Addr} {as : List Addr} {em : Int} {oI : Obj} (P : ProofAt h pr dp st nm as em) (e : h.get? I = some oI) (zI : ¬ notIt oI) : I ∉ [st, dp] := fun m => by
  obtain ⟨a1, a2, a3, t1, t2, t3, t4, hd⟩ := P.dict
  obtain ⟨n, hl⟩ := P.list
  rcases List.mem_cons.mp m with z | m
  · rw [z, hl] at e; cases e; exact zI fun q => absurd q (show Value.type "list" ≠ Value.type "range_iterator" by decide)
  · rw [List.mem_singleton.mp m, hd] at e; cases e; exact zI fun q => absurd q (show Value.type "dict" ≠ Value.type "range_iterator" by decide)
end SLawS
section SLaw
theorem word49 : True := by
  k_with "eval IfExp" => (k_here; with_reducible refine hold_on ?_)
  trivial
def plainInts : List Int := [0, 0, 0, 0, 0, 0, 1, 0, 1, 0, 0, 0, 0, 0, 1, 1, 0, 1]
theorem plain_at {w : World} {h : Heap} (X : (Mine.hd.heap_39 w.params).In h) : ∃ vs, IsTup h 708 (List.toArray vs) ∧ IntsAre vs plainInts := by
  have e : ∃ o vs n, (Mine.hd.heap_39 w.params).lookup 708 = some o ∧ o.cls = .type "tuple" ∧ o.data = .seq (List.toArray vs) n ∧ IntsAre vs plainInts := by
    refine ⟨_, _, _, by k_is, rfl, rfl, ?_⟩
    unfold plainInts
    repeat' constructor
  obtain ⟨o, vs, n, e, hc, hd, hs⟩ := e
  exact ⟨vs, ⟨o, X _ _ e, hc, n, hd⟩, hs⟩
inductive CellsT (g : Heap) (L : Addr) (m : Str → Option Value) (news : List (Addr × Obj)) (s : Shared) (v : Value) (s₁ : Shared) : Prop
  | mk : ∀ (h tk cells x xs), v = .ref cells → s₁ = { s with heap := h, toks := tk } → Fr g L h m → News g L h (news ++ x) → (∀ h' m', Fr g L h' m' → News g L h' x → SeqInts h' cells xs) → ((x = [] ∧ ∃ o, g.get? cells = some o) ∨ ((∃ oc, x = [(cells, oc)]) ∧ ∀ q ∈ news, q.1 ≠ cells)) → xs.length ≤ 60 → CellsT g L m news s v s₁
theorem join_cells {M : Model} {A : Around} {t : Sem Value} {E : Value → Shared → Prop} {Q : Value → Shared → Prop} {s : Shared} {g : Heap} {L : Addr} {m : Str → Option Value} {news : List (Addr × Obj)} (F : Fr g L s.heap m) (N : News g L s.heap news)
    (h1 : wpAny M A t (CellsT g L m news s) E s) (h2 : ∀ h tk cells x xs, Fr g L h m → News g L h (news ++ x) → (∀ h' m', Fr g L h' m' → News g L h' x → SeqInts h' cells xs) → ((x = [] ∧ ∃ o, g.get? cells = some o) ∨ ((∃ oc, x = [(cells, oc)]) ∧ ∀ q ∈ news, q.1 ≠ cells)) → xs.length ≤ 60 → Q (.ref cells) { s with heap := h, toks := tk }) : wpAny M A t Q E s :=
  wpAny_mono h1 (fun v s' ⟨h, tk, cells, x, xs, e, e', F', N', S', x', l'⟩ => by rw [e, e']; exact h2 h tk cells x xs F' N' S' x' l') fun _ _ x => x
theorem word50 : True := by
  k_with "exec For Name Call cons nil" => (k_here; (rename Fr _ _ _ _ => lF'); (with_unfolding_all refine' for_walksTF lF' ?k1 ?k2 ?_; (case k1 => exact rfl); (case k2 => exact rfl); k_whole))
  k_with "getMethod ref" => (k_here; with_reducible refine hold_on ?_)
  trivial
/-- between two turns of the law -/
inductive LawJ (w : World) (g : Heap) (L core dc plain dq pr dp st nm c cells : Addr) (xs : List Int) (lo hi : Nat → Nat) (top : Nat → Int) (k : Nat) (m₁ : Str → Option Value) (news₁ : List (Addr × Obj)) : Prop
  | mk : NamesAt m₁ [(Str.ofString "cup", .ref c), (Str.ofString "proof", .ref pr), (Str.ofString "core", .ref core), (Str.ofString "plain", .ref plain)] → ∀ (as cls em idx), lo k ≤ as.length → as.length ≤ hi k → 0 ≤ idx → idx ≤ top k → (∀ c ∈ cls, Tid c) → (∀ h' m', Fr g L h' m' → News g L h' news₁ → LawAt w h' core dc plain dq pr dp st nm c cells xs as cls em idx) → LawJ w g L core dc plain dq pr dp st nm c cells xs lo hi top k m₁ news₁
theorem lw_0 {v : Int} (r : 0 ≤ v ∧ v < 4) : 0 ≤ 4 + v := by omega
theorem lw_1 {v : Int} (r : 0 ≤ v ∧ v < 4) : (4 + v).toNat < 1000000 := by omega
theorem lw_x {v idx : Int} {k : Nat} (r : 0 ≤ v ∧ v < 4) (h : k < (4 + v).toNat) (b : idx ≤ 1 + 10 * (k : Int)) : idx < 900000 := by omega
theorem lw_n {v : Int} {k n : Nat} (r : 0 ≤ v ∧ v < 4) (h : k < (4 + v).toNat) (b : n ≤ k) : n < 1000 := by omega
theorem lw_e {idx i' : Int} {k : Nat} (b : idx ≤ 1 + 10 * (k : Int)) (q : i' ≤ idx + 10) : i' ≤ 1 + 10 * ((k + 1 : Nat) : Int) := by omega
theorem lw_s1 {v : Int} {n : Nat} (r : 0 ≤ v ∧ v < 4) (b : (4 + v).toNat ≤ n) : 4 ≤ n := by omega
theorem lw_s2 {v : Int} {n : Nat} (r : 0 ≤ v ∧ v < 4) (b : n ≤ (4 + v).toNat) : n ≤ 7 + 7 * 0 := by omega
theorem lw_s3 {v idx : Int} (r : 0 ≤ v ∧ v < 4) (b : idx ≤ 1 + 10 * ((4 + v).toNat : Int)) : idx ≤ 80 + 100 * ((0 : Nat) : Int) := by omega
theorem lw_y {idx : Int} {k : Nat} (h : k < 6) (b : idx ≤ 80 + 100 * (k : Int)) : idx < 800000 := by omega
theorem lw_m {n k : Nat} (h : k < 6) (b : n ≤ 7 + 7 * k) : n < 150 := by omega
theorem lw_l {n k : Nat} (h : 4 ≤ n) : 4 ≤ n + k := by omega
theorem lw_u {n k j : Nat} (b : n ≤ 7 + 7 * k) (h : j ≤ 7) : n + j ≤ 7 + 7 * (k + 1) := by omega
theorem lw_z {idx i' : Int} {k : Nat} (b : idx ≤ 80 + 100 * (k : Int)) (q : i' ≤ idx + 100) : i' ≤ 80 + 100 * ((k + 1 : Nat) : Int) := by omega
theorem law0 : PySem.Challenge.rw_rg0222_01.Holds := Mine.hd (by
  w_strict (
    k_go0
    all_goals try k_fold
    rename Below _ _ _ _ => K0
    clear K0
    rename Frag.In _ _ => X0
    rename Top _ _ _ _ _ _ => T0
    rename IntsAre _ _ => I0
    rename Heap.IsList _ _ _ => L0
    rename ¬ ((63 : Nat) : Int) < ((_ : Nat) : Int) => hc63
    rename_i w0 s0 s1 mg mb zG zY fa zo pm doc kV zho zhg zX zV zGL zB zTE zTW ad1 ob1 zM cdA ad2 zhcd xs0 zhs zhlay zhL zhr zhl2 ls1 ls2 la vs0 ls3 zra zw1 zr0 zhr2 zht zhD hh1 F0 N0
    clear zG zY zho zX zV zGL zB zTE zTW zM zhcd zhD zw1 zr0 zhr zhr2 zhl2 zhlay zht zra
    k_steps
    rename Fr _ _ _ _ => F1
    rename News _ _ _ _ => N1
    unfold HoldOn
    refine join_cells F1 N1 ?_ ?_
    · refine wpAny_IfExp ?_
      k_steps
      · rename Fr _ _ _ _ => F2
        rename News _ _ _ _ => N2
        exact ⟨_, _, _, [(_, _)], _, rfl, rfl, F2, fun q hq => N2 q (by
          rcases List.mem_cons.mp hq with rfl | hq
          · exact .tail _ (.tail _ (.head _))
          · rw [List.mem_singleton.mp hq]; exact .head _), fun h' m' F N => ⟨_, by assumption, .inl (N.isList (.head _))⟩, .inr ⟨⟨_, rfl⟩, fun q hq => by rw [List.mem_singleton.mp hq]; exact And.right (by assumption)⟩, by rw [List.length_map, List.length_take]; exact Nat.min_le_left _ _⟩
      · rename Fr _ _ _ _ => F2
        rename News _ _ _ _ => N2
        obtain ⟨vs, ⟨o, ho, r⟩, iv⟩ := plain_at X0
        exact ⟨_, _, _, [], plainInts, rfl, rfl, F2, fun q hq => N2 q (by simpa using hq), fun h' m' F N => ⟨_, iv, .inr ⟨o, F.keep _ _ ho, r⟩⟩, .inl ⟨rfl, o, ho⟩, by decide⟩
    intro h2 tk2 cells x xs F2 N2 hcs hx hxs
    clear F1 N1
    dsimp only [List.cons_append, List.nil_append] at N2
    clear L0 I0 hc63 zhs zhL
    k_steps
    rename Fr _ _ _ _ => F3
    rename News _ _ _ _ => N3
    obtain ⟨c, ec⟩ := name_head N3
    subst ec
    refine kdn_made_str F3 N3 (.head fun q hq => ?_) (by assumption) (by rfl) (of_decide_eq_true (by first | rfl | kernel_rfl!)) fun h4 oc F4 N4 hdc => ?_
    · rcases hx with ⟨rfl, _⟩ | ⟨⟨o, rfl⟩, hne⟩
      · cases hq
      · rw [List.mem_singleton.mp hq]; exact (hne _ (.head _)).symm
    clear F3 N3
    k_steps
    rename Fr _ _ _ _ => F5
    rename News _ _ _ _ => N5
    refine proof_new F5 X0 T0 N5 (Nat.le_of_ble_eq_true rfl) fun pr dp st nm n0 a1 a2 a3 t1 t2 t3 t4 em h6 tk6 F6 N6 nP nP2 => ?_
    clear F5 N5
    dsimp only [ledP, List.cons_append, List.nil_append] at N6
    k_steps
    rename Fr _ _ _ _ => F7
    rename News _ _ _ _ => N7
    have N8 := news_tail N7
    clear N7
    refine search_new F7 X0 T0 N8 (Nat.le_of_ble_eq_true rfl) fun core dc esA nA h9 tk9 F9 N9 pA lA l1 l2 => ?_
    clear F7 N8
    k_steps
    rename Fr _ _ _ _ => F10
    rename News _ _ _ _ => N10
    refine search_new F10 X0 T0 N10 (Nat.le_of_ble_eq_true rfl) fun plain dq esB nB h11 tk11 F11 N11 pB lB l3 l4 => ?_
    clear F10 N10
    k_steps
    rename Fr _ _ _ _ => F12
    rename News _ _ _ _ => N12
    have F12' := F12
    have S0 : LawAt _ _ core dc plain dq pr dp st nm c cells xs [] [] em 0 := ⟨⟨(N12 _ (.tail _ (.tail _ (.tail _ (.head _))))).1, _, _, (N12 _ (.tail _ (.tail _ (.tail _ (.tail _ (.head _)))))).1, pA, lA⟩, ⟨(N12 _ (.tail _ (.head _))).1, _, _, (N12 _ (.tail _ (.tail _ (.head _)))).1, pB, lB⟩,
      led_proof (news_upto 3 (news_from 5 N12)), .nil, ⟨oc, _, (news_pick 8 N12 rfl).1, hdc⟩, hcs _ _ F12 (news_from 9 N12)⟩
    have ne := law_ne (core := core) (dc := dc) (plain := plain) (dq := dq) (pr := pr) (dp := dp) (st := st) (x := x) F12
      (all_cons (news_pick 3 N12 rfl).2 (all_cons (news_pick 4 N12 rfl).2 (all_cons (news_pick 1 N12 rfl).2 (all_cons (news_pick 2 N12 rfl).2 (all_cons (news_pick 6 N12 rfl).2 (all_cons (news_pick 7 N12 rfl).2 (all_cons (news_pick 5 N12 rfl).2 (all_cons (news_pick 8 N12 rfl).2 all_nil))))))))
      (news_from 9 N12) (by exact all_map (P := fun a => a < dc) l1) l2 (by exact all_map (P := fun a => a < dq) l3) l4 (by exact all_map (P := fun a => a ∉ [st, pr, dp]) nP) nP2 (Ne.symm S0.P.ne.2.2.symm) hx
    have gc : ∀ a ∈ [c, st, pr, dp], T0.heap.get? a = none := all_cons (news_pick 8 N12 rfl).2.2 (all_cons (news_pick 5 N12 rfl).2.2 (all_cons (news_pick 6 N12 rfl).2.2 (all_cons (news_pick 7 N12 rfl).2.2 all_nil)))
    have gcc : ∀ a ∈ [c], T0.heap.get? a = none := all_cons (gc c (.head _)) all_nil
    have nLc : ∀ {L : Addr}, LawNe L core dc plain dq pr dp st c cells → L ∉ [c] := fun n => notin_cons (fun z => n.LW (z ▸ .head _)) notin_nil
    have ncc : cells ≠ c := fun e => ne.cellsW (e ▸ .head _)
    refine use_lo (pipe_c X0 T0 (by exact F12.keep) S0.cup S0.cellsAt ncc (gc _ (.head _)) (Int.le_refl _) (by decide) (by decide) (by decide) hxs fun h13 tk13 t13 k13 c13 => ?_) rfl (Nat.le_of_ble_eq_true rfl) (Nat.le_of_ble_eq_true rfl)
    have F13 := fr_call F12 k13 (nLc ne) gcc
    obtain ⟨x1, N13, z1, back1⟩ := pinC_law F13 ne (S0.keep_c ne k13 c13)
    clear F12 N12 F12' S0 k13 c13 nP l1 l3 hcs hx pA lA pB lB
    have r13 := pipe_rng (xs := xs) (i := 0) (many := 4) (by decide)
    generalize pipeV xs 0 4 = v13 at r13 ⊢
    k_steps
    rename Fr _ _ _ _ => F14
    rename News _ _ _ _ => N14
    rename IsRange _ _ _ _ _ _ _ _ => hr
    have en : ((4 + v13).toNat : Int) = 4 + v13 := Int.toNat_of_nonneg (lw_0 r13)
    rw [← en] at hr
    have nLp : ∀ {L : Addr}, LawNe L core dc plain dq pr dp st c cells → L ∉ [st, dp] := fun n => notin_cons (fun z => n.LW (z ▸ .tail _ (.head _))) (notin_cons (fun z => n.LW (z ▸ .tail _ (.tail _ (.tail _ (.head _))))) notin_nil)
    have gppp : ∀ a ∈ [st, pr, dp], T0.heap.get? a = none := fun a m => gc a (.tail _ m)
    have gpp : ∀ a ∈ [st, dp], T0.heap.get? a = none := all_cons (gppp st (.head _)) (all_cons (gppp dp (.tail _ (.tail _ (.head _)))) all_nil)
    rename Fr _ _ h13 _ => Fx
    rename News _ _ h13 _ => Nx
    clear Fx Nx
    refine iter_rngT (LawJ _ _ _ core dc plain dq pr dp st nm c cells xs (fun k => k) (fun k => k) (fun k => 1 + 10 * (k : Int))) rfl hr (lw_1 r13) F14 N14 z1
      ⟨four_names rfl rfl rfl rfl, [], [], em, 0 + 1, Nat.le_refl _, Nat.le_refl _, by decide, by decide, (fun _ m => nomatch m), back1⟩ ?_ ?_
    · rintro I k ti m₁ news₁ h tk oI hk ⟨hnm, as, cls, em, idx, b0, b1, b2, b3, htd, back⟩ zn zI F15 N15
      rw [with_names hnm] at F15
      dsimp only [withNames] at F15
      clear F14 N14 back1 hr
      try dsimp only at b0 b1 b3
      k_steps
      rename Fr _ _ _ _ => F16
      rename News _ _ _ _ => N16
      have S16 := back _ _ F16 (news_tail N16)
      obtain ⟨a1, a2, a3, t1, t2, t3, t4, hd16⟩ := S16.P.dict
      unfold HoldOn
      refine method_inst F16 X0 ⟨S16.P.inst, rfl, rfl, hd16⟩ (by k_is) (by k_is) (by k_is) rfl ?_
      k_steps
      rename Fr _ _ _ _ => F17
      rename News _ _ _ _ => N17
      have S17 := back _ _ F17 (news_tail N17)
      refine use_lo (lclause_c X0 T0 (by exact F17.keep) S17.cup S17.cellsAt ncc (gc _ (.head _)) b2 (lw_x r13 hk b3) hxs fun h18 tk18 D zs i' k18 c18 q1 q2 tD fD tdz => ?_) rfl (Nat.le_of_ble_eq_true rfl) (Nat.le_of_ble_eq_true rfl)
      have F18 := fr_call F17 k18 (nLc ne) gcc
      have nIc := it_ne_cup S17.cup (N17 _ (.head _)).1 zI
      have e18 := k18 _ _ nIc (N17 _ (.head _)).1
      have S18 := S17.keep_c ne k18 c18
      obtain ⟨x18, N18, z18, back18⟩ := (pinC_law F18 ne S18).and (pinC_tupi F18 tD)
      have N19 := news_cons7 e18 (N17 _ (.head _)).2.1 (N17 _ (.head _)).2.2 N18
      clear S16 F17 N17 S17 k18 c18 S18 N18
      k_steps
      rename Fr _ _ _ _ => F20
      rename News _ _ _ _ => N20
      have S20 := back18 _ _ F20 (news_tail (news_tail N20))
      refine use_lo (add_c (B := T0.heap) X0 T0 (by exact F20.keep) S20.1.P gppp (lw_n r13 hk b1) (by decide +kernel) S20.2 (ps := []) ⟨[], .nil, _, (N20 _ (.head _)).1, rfl, _, rfl⟩ (Nat.lt_of_le_of_lt tdz.len (by decide)) (by decide) (tupi_not S20.1.P S20.2) (tupi_not S20.1.P ⟨[], .nil, _, (N20 _ (.head _)).1, rfl, _, rfl⟩) tdz.ne tdz.step (fun q hq => nomatch hq) fun h21 tk21 t21 a em' k21 P21 fa T21 => ?_) rfl (Nat.le_of_ble_eq_true rfl) (Nat.le_of_ble_eq_true rfl)
      have F21 := fr_call F20 k21 (nLp ne) gpp
      have e21 := k21 _ _ (it_ne_p S20.1.P (N20 _ (.tail _ (.head _))).1 zI) (N20 _ (.tail _ (.head _))).1
      have S21 := S20.1.keep_p ne (all_cons (.head _) (all_cons (.tail _ (.head _)) all_nil)) k21 P21 ((S20.1.S.keepN k21 (proof_notup S20.1.P)).app (StepsAt.cons ⟨_, D, _, _, T21, tupi_keepN k21 (proof_notup S20.1.P) S20.2⟩ .nil))
      obtain ⟨x21, N21, z21, back21⟩ := pinC_law F21 ne S21
      have N22 := news_cons7 e21 (N20 _ (.tail _ (.head _))).2.1 (N20 _ (.tail _ (.head _))).2.2 N21
      clear S20 F20 N20 k21 P21 T21 S21 N21
      k_steps
      rename Fr _ _ _ _ => F23
      rename News _ _ _ _ => N23
      exact ⟨_, _, _, x21, rfl, F23, (N23 _ (.head _)).1, news_tail N23, z21, four_names rfl rfl rfl rfl, as ++ [a], cls ++ [zs], em', i', by rw [List.length_append]; exact Nat.succ_le_succ b0, by rw [List.length_append]; exact Nat.succ_le_succ b1, Int.le_trans b2 q1, by exact lw_e b3 q2, (all_app htd (all_cons tdz all_nil)), back21⟩
    · intro h24 tk24 m₁ news₁ F24 N24 z24 ⟨hnm, as, cls, em, idx, b0, b1, b2, b3, htd, back⟩
      try dsimp only at b0 b1 b3
      k_steps
      rename Fr _ _ _ _ => F25
      rename News _ _ _ _ => N25
      rename IsRange _ _ _ _ _ _ _ _ => hr2
      rename Fr _ _ h24 _ => Fx
      rename News _ _ h24 _ => Nx
      clear Fx Nx
      refine iter_rngT (n := 6) (LawJ _ _ _ core dc plain dq pr dp st nm c cells xs (fun _ => 4) (fun k => 7 + 7 * k) (fun k => 80 + 100 * (k : Int))) rfl hr2 (by decide) F25 N25 z24
        ⟨hnm, as, cls, em, idx, by exact lw_s1 r13 b0, by exact lw_s2 r13 b1, b2, by exact lw_s3 r13 b3, htd, back⟩ ?_ ?_
      · clear F25 N25 hr2 hnm b0 b1 b2 b3 htd back z24
        rintro I k ti m₁ news₁ h tk oI hk ⟨hnm, as, cls, em, idx, b0, b1, b2, b3, htd, back⟩ zn zI F26 N26
        rw [with_names hnm] at F26
        dsimp only [withNames] at F26
        try dsimp only at b0 b1 b3
        k_steps
        rename Fr _ _ _ _ => F27
        rename News _ _ _ _ => N27
        have S27 := back _ _ F27 (news_tail N27)
        refine use_lo (lchain_c X0 T0 (by exact F27.keep) S27.cup S27.cellsAt ne.cellsW b2 (lw_y hk b3) hxs S27.P gc (fun m => ne.cW (.tail _ (.tail _ (.tail _ (.tail _ (List.mem_append_left [cells, _] m)))))) S27.S (Nat.lt_trans (lw_m hk b1) (by decide)) (Nat.lt_of_lt_of_le (by decide) b0) htd fun h28 tk28 R PL hv o ps first tf i' k28 c28 q1 q2 tR hPL fPL lps hps f0 f1 eo hho => ?_) rfl (Nat.le_of_ble_eq_true rfl) (Nat.le_of_ble_eq_true rfl)
        have F28 := fr_call F27 k28 (nLc ne) gcc
        have e28 := k28 _ _ (it_ne_cup S27.cup (N27 _ (.head _)).1 zI) (N27 _ (.head _)).1
        have nPL : PL ≠ st := fun e => by
          obtain ⟨n, l⟩ := S27.P.list
          rw [e, l] at fPL
          cases fPL
        obtain ⟨x28, N28, z28, back28⟩ := (pinC_law F28 ne (S27.keep_c ne k28 c28)).and ((pinC_pairs F28 hPL).and (pinC_here F28 hho))
        have N29 := news_cons7 e28 (N27 _ (.head _)).2.1 (N27 _ (.head _)).2.2 N28
        clear S27 F27 N27 k28 c28 N28 hPL hho
        k_steps
        rename Fr _ _ _ _ => F30
        rename News _ _ _ _ => N30
        have S30 := back28 _ _ F30 (news_tail N30)
        obtain ⟨oL, esL, epL, eL, dL, rL⟩ := id F30.ns
        refine chained_c X0 T0 (by exact F30.keep) rfl (Nat.le_of_ble_eq_true rfl) (Nat.le_of_ble_eq_true rfl) rfl (frs_one (fun q => by cases q) rfl eL fun us q => by rw [dL] at q; cases q) rfl ⟨_, F30.ns⟩
          S30.1.SA S30.1.SB ne.dcW ne.dqW S30.1.P (all_cons (gc st (.tail _ (.head _))) (all_cons (gc pr (.tail _ (.tail _ (.head _)))) (all_cons (gc dp (.tail _ (.tail _ (.tail _ (.head _))))) (all_cons (Heap.get?_none_of_le F30.above) all_nil)))) (fun m => ne.LW (.tail _ m)) S30.1.S (lw_m hk b1) htd S30.2.1 nPL lps hps f0 f1 (eo ▸ S30.2.2) fun h31 tk31 bs ds em' K31 P31 S31 td31 lb => ?_
        have F31 := kept_fr K31 rfl (by exact gpp) F30
        have e31 := K31.keep _ _ (by rw [frs_1 rfl]; exact notin_app (it_ne_p S30.1.P (N30 _ (.head _)).1 zI) (notin_cons (N30 _ (.head _)).2.1 notin_nil)) (N30 _ (.head _)).1
        have L31 := S30.1.keep_p ne (by rw [frs_1 rfl]; exact all_cons (.head _) (all_cons (.tail _ (.head _)) (all_cons (.tail _ (.tail _ (.head _))) all_nil))) K31.keep P31 S31
        obtain ⟨x31, N31, z31, back31⟩ := pinC_law F31 ne L31
        have N32 := news_cons7 e31 (N30 _ (.head _)).2.1 (N30 _ (.head _)).2.2 N31
        clear S30 F30 N30 K31 P31 S31 L31 N31
        k_steps
        rename Fr _ _ _ _ => F33
        rename News _ _ _ _ => N33
        exact ⟨_, _, _, x31, rfl, F33, (N33 _ (.head _)).1, news_tail N33, z31, four_names rfl rfl rfl rfl, as ++ bs, cls ++ ds, em', i', by rw [List.length_append]; exact lw_l b0, by rw [List.length_append]; exact lw_u b1 lb, Int.le_trans b2 q1, by exact lw_z b3 q2, (all_app htd td31), back31⟩
      · intro h34 tk34 m₁ news₁ F34 N34 z34 _
        k_steps))
end SLaw
end Mine
theorem PySem.Challenge.cw_rg0222_01_holds : PySem.Challenge.rw_rg0222_01.Holds := by
  exact Mine.law0
