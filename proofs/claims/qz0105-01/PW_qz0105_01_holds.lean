import PyProof.Rows.All
import Wide.All
import OpenK.AllK
import Wide.FinOn
import PySem.Challenge.RW_qz0105_01
open PySem PySem.W PyProof.Rows PySem.Calls
set_option Elab.async false
set_option rowWalk.seconds 0
theorem Mine.ok.tw4774197448807660576 : True := trivial
theorem Mine.ok.tw3258288634487388257 : True := trivial
theorem Mine.hl.tw12438083435093162544 : True := trivial
theorem Mine.hl.tw1111996730195266146 : True := trivial
theorem Mine.hl.tw339934975292780674 : True := trivial
theorem Mine.hl.tw7454511481124118592 : True := trivial
theorem Mine.hl.tw16515924936388538935 : True := trivial
theorem Mine.hl.tw18387977878415111560 : True := trivial
theorem Mine.hl.tw17826911988070193945 : True := trivial
theorem Mine.hl.tw17335672690554611081 : True := trivial
theorem Mine.hl.tw16261791134975516742 : True := trivial
theorem Mine.hl.tw7280877120746825408 : True := trivial
theorem Mine.hl.tw17649173918742016741 : True := trivial
theorem Mine.hl.tw4329824827365364996 : True := trivial
theorem Mine.hl.tw9633734454081326890 : True := trivial
theorem Mine.hl.tw6153961085078880759 : True := trivial
theorem Mine.hl.tw4483308804753999789 : True := trivial
theorem Mine.hl.tw17498994283649040953 : True := trivial
theorem Mine.hl.tw8828634347296094364 : True := trivial
theorem Mine.hl.tw10662851996195452156 : True := trivial
theorem Mine.hl.tw14765320847220759922 : True := trivial
theorem Mine.hl.tw3657598823930912937 : True := trivial
theorem Mine.hl.tw11241207179588137868 : True := trivial
theorem Mine.hl.tw12890554681420821449 : True := trivial
theorem Mine.hl.tw15389979553901151257 : True := trivial
theorem Mine.hl.tw8178716145967187021 : True := trivial
theorem Mine.hl.tw2393509893839775623 : True := trivial
theorem Mine.hl.tw17868148199972161697 : True := trivial
theorem Mine.hl.tw10250282635072948145 : True := trivial
theorem Mine.hl.tw2302220191375339293 : True := trivial
theorem Mine.hl.tw8057455999232492983 : True := trivial
theorem Mine.hl.tw1006114754873445584 : True := trivial
theorem Mine.hl.tw4538924737577656528 : True := trivial
theorem Mine.hl.tw3289983784684031356 : True := trivial
theorem Mine.hl.tw7635641668020472919 : True := trivial
theorem Mine.hl.tw16767949095981230383 : True := trivial
theorem Mine.hl.tw12305016067093239319 : True := trivial
theorem Mine.hl.tw17831216455286595372 : True := trivial
theorem Mine.hl.tw3335777789928850060 : True := trivial
theorem Mine.hl.tw13484451905716778138 : True := trivial
theorem Mine.hl.tw18397375332478790248 : True := trivial
theorem Mine.hl.tw13760786268092275982 : True := trivial
theorem Mine.hl.tw12380615670192356213 : True := trivial
theorem Mine.hl.tw9695610650336612714 : True := trivial
theorem Mine.hl.tw10544172820212984548 : True := trivial
theorem Mine.hl.tw15873770070064417884 : True := trivial
theorem Mine.hl.tw6049436489509817392 : True := trivial
theorem Mine.hl.tw2722090471572161165 : True := trivial
theorem Mine.hl.tw2370695849326813543 : True := trivial
theorem Mine.hl.tw9784222663585390018 : True := trivial
theorem Mine.hl.tw16844793837421650660 : True := trivial
theorem Mine.hl.tw8646825034291232174 : True := trivial
theorem Mine.hl.tw6119033764910118694 : True := trivial
theorem Mine.hl.tw3019108789123363541 : True := trivial
theorem Mine.hl.tw10812555732441894964 : True := trivial
theorem Mine.hl.tw16424508719655813996 : True := trivial
theorem Mine.hl.tw3341645758004065621 : True := trivial
theorem Mine.hl.tw17726730695643717212 : True := trivial
theorem Mine.hl.tw11435552856554742378 : True := trivial
theorem Mine.hl.tw11866721534204686585 : True := trivial
theorem Mine.hl.tw3281367262618110394 : True := trivial
theorem Mine.hl.tw7664842530196023617 : True := trivial
theorem Mine.hl.tw9752125576156009181 : True := trivial
theorem Mine.hl.tw14211393285865234700 : True := trivial
theorem Mine.hl.tw3250143001409927151 : True := trivial
theorem Mine.hl.tw9860573755849064737 : True := trivial
theorem Mine.hl.tw2456801734716306652 : True := trivial
theorem Mine.hl.tw6685479732568967490 : True := trivial
theorem Mine.hl.tw15902882072564088261 : True := trivial
theorem Mine.hl.tw5472978417624068376 : True := trivial
theorem Mine.hl.tw3653259760474918965 : True := trivial
theorem Mine.hl.tw10571734707923830407 : True := trivial
theorem Mine.hl.tw16316884177195321789 : True := trivial
theorem Mine.hl.tw15200153231522936398 : True := trivial
theorem Mine.hl.tw6543200240642611271 : True := trivial
theorem Mine.hl.tw1729406836895724714 : True := trivial
theorem Mine.hl.tw17535864904902756032 : True := trivial
theorem Mine.hl.tw299789406411547676 : True := trivial
theorem Mine.hl.tw2479373688028049044 : True := trivial
theorem Mine.hl.tw14424065385220916333 : True := trivial
theorem Mine.hl.tw18284097836472390619 : True := trivial
theorem Mine.hl.tw16852100287573427174 : True := trivial
theorem Mine.hl.tw7767819233232710692 : True := trivial
theorem Mine.hl.tw2618232129040216235 : True := trivial
theorem Mine.hl.tw17838663402661779548 : True := trivial
theorem Mine.hl.tw9529199622609975089 : True := trivial
theorem Mine.hl.tw8464144601734771395 : True := trivial
theorem Mine.hl.tw127810083545348083 : True := trivial
theorem Mine.hl.tw1024480977146346539 : True := trivial
theorem Mine.hl.tw12384607823819583470 : True := trivial
theorem Mine.hl.tw15215222445988454970 : True := trivial
theorem Mine.hl.tw5452381611154546888 : True := trivial
theorem Mine.hl.tw6085648837994296345 : True := trivial
theorem Mine.hl.tw18320482144620914812 : True := trivial
theorem Mine.hl.tw7729468899744137973 : True := trivial
theorem Mine.hl.tw4929072228380614552 : True := trivial
theorem Mine.hl.tw5264027173240706548 : True := trivial
theorem Mine.hl.tw17031521786528681664 : True := trivial
theorem Mine.hl.tw15427096986519996709 : True := trivial
theorem Mine.hl.tw18166007068304585898 : True := trivial
theorem Mine.hl.tw8114544417915452461 : True := trivial
theorem Mine.hl.tw1778904116411277523 : True := trivial
theorem Mine.hl.tw2322733872859656753 : True := trivial
theorem Mine.hl.tw2624793206757409370 : True := trivial
theorem Mine.hl.tw4078505159204981691 : True := trivial
theorem Mine.hl.tw15214581905762340207 : True := trivial
theorem Mine.hl.tw7312848315381624754 : True := trivial
theorem Mine.hl.tw6217111265376084857 : True := trivial
theorem Mine.hl.tw14559588696901945459 : True := trivial
theorem Mine.hl.tw4469045755412580623 : True := trivial
theorem Mine.hl.tw1222641902664459394 : True := trivial
theorem Mine.hl.tw2007872734674630382 : True := trivial
theorem Mine.hl.tw2076448663287118381 : True := trivial
theorem Mine.hl.tw15700944600841806413 : True := trivial
theorem Mine.hl.tw15948728701373898962 : True := trivial
theorem Mine.hl.tw8208948180672571179 : True := trivial
theorem Mine.hl.tw4785044232607355908 : True := trivial
theorem Mine.hl.tw11892836708078313599 : True := trivial
theorem Mine.hl.tw16163524714711578904 : True := trivial
theorem Mine.hl.tw15282364120068534739 : True := trivial
theorem Mine.hl.tw3985726166178330141 : True := trivial
theorem Mine.hl.tw524987377178235185 : True := trivial
theorem Mine.hl.tw15447793216644378948 : True := trivial
theorem Mine.hl.tw5187537313931232952 : True := trivial
theorem Mine.hl.tw7816331916229596907 : True := trivial
theorem Mine.hl.tw5757351992805762594 : True := trivial
theorem Mine.hl.tw11946734807478075187 : True := trivial
theorem Mine.hl.tw10559910547074404789 : True := trivial
theorem Mine.hl.tw6600570391457070771 : True := trivial
theorem Mine.hl.tw4291080795325250897 : True := trivial
theorem Mine.hl.tw13649419636208949103 : True := trivial
theorem Mine.hl.tw6501152119437997095 : True := trivial
theorem Mine.hl.tw3717946162574201788 : True := trivial
theorem Mine.hl.tw6712840055563139910 : True := trivial
theorem Mine.hl.tw3084993876680514987 : True := trivial
theorem Mine.hl.tw16047933810529706608 : True := trivial
theorem Mine.hl.tw9188254164854488716 : True := trivial
theorem Mine.hl.tw8076268417004574602 : True := trivial
theorem Mine.hl.tw6594788218451541036 : True := trivial
theorem Mine.hl.tw18396558736193958842 : True := trivial
theorem Mine.hl.tw307281273043751124 : True := trivial
theorem Mine.hl.tw13253550427560563474 : True := trivial
theorem Mine.hl.tw14255623579457048181 : True := trivial
theorem Mine.hl.tw13153764311250236356 : True := trivial
theorem Mine.hl.tw5145293575752800150 : True := trivial
theorem Mine.hl.tw9074735092996313337 : True := trivial
theorem Mine.hl.tw1421551225158852031 : True := trivial
theorem Mine.hl.tw14896634947940885277 : True := trivial
theorem Mine.hl.tw8698431598129721693 : True := trivial
theorem Mine.hl.tw1639268887332892599 : True := trivial
theorem Mine.hl.tw11960382076454858946 : True := trivial
theorem Mine.hl.tw10100151486014761222 : True := trivial
theorem Mine.hl.tw6849400039628600303 : True := trivial
theorem Mine.hl.tw6454577426291179678 : True := trivial
theorem Mine.hl.tw12325492943668699603 : True := trivial
theorem Mine.hl.tw4981215850112355344 : True := trivial
theorem Mine.hl.tw2702805338030581880 : True := trivial
theorem Mine.hl.tw16143331884596517826 : True := trivial
theorem Mine.hl.tw1362640930559877494 : True := trivial
theorem Mine.hl.tw5733771707401124499 : True := trivial
theorem Mine.hl.tw14646105324915616825 : True := trivial
theorem Mine.hl.tw7503537870709205275 : True := trivial
theorem Mine.hl.tw1507416242998899331 : True := trivial
theorem Mine.hl.tw3888105318073025932 : True := trivial
theorem Mine.hl.tw11777298186630945249 : True := trivial
theorem Mine.hl.tw9288965550603581964 : True := trivial
theorem Mine.hl.tw10507965822795622747 : True := trivial
theorem Mine.hl.tw3585331242131476502 : True := trivial
theorem Mine.hl.tw13486101523254882733 : True := trivial
theorem Mine.hl.tw8181562032636554976 : True := trivial
theorem Mine.hl.tw984093207177218915 : True := trivial
theorem Mine.hl.tw12606531449108343631 : True := trivial
theorem Mine.hl.tw12691098201354408974 : True := trivial
theorem Mine.hl.tw16362875017941116833 : True := trivial
theorem Mine.hl.tw9230322682313169028 : True := trivial
theorem Mine.hl.tw16810424789181579751 : True := trivial
theorem Mine.hl.tw973480232402992994 : True := trivial
theorem Mine.hl.tw7351789236625097477 : True := trivial
theorem Mine.hl.tw6362776041020204868 : True := trivial
theorem Mine.hl.tw18104432190023657371 : True := trivial
theorem Mine.hl.tw1095384143560143087 : True := trivial
theorem Mine.hl.tw972025348410006197 : True := trivial
theorem Mine.hl.tw4978694877648914615 : True := trivial
theorem Mine.hl.tw7296407279668862671 : True := trivial
theorem Mine.hl.tw8351920966218513677 : True := trivial
theorem Mine.hl.tw16365793879160005135 : True := trivial
theorem Mine.hl.tw3326938436160061838 : True := trivial
theorem Mine.hl.tw12651390506228154293 : True := trivial
theorem Mine.hl.tw5431531725301450284 : True := trivial
theorem Mine.hl.tw12321473858425439864 : True := trivial
theorem Mine.hl.tw11771013845497393963 : True := trivial
theorem Mine.hl.tw1272305543434743873 : True := trivial
theorem Mine.hl.tw7487527808083490084 : True := trivial
theorem Mine.hl.tw17971428123952755905 : True := trivial
theorem Mine.hl.tw18038367121247854661 : True := trivial
theorem Mine.hl.tw1643289804401403603 : True := trivial
theorem Mine.hl.tw16616464726401850520 : True := trivial
theorem Mine.hl.tw1458508710639094623 : True := trivial
theorem Mine.hl.tw8674154714516365460 : True := trivial
theorem Mine.hl.tw10288064819245126022 : True := trivial
theorem Mine.hl.tw7852921851051357632 : True := trivial
theorem Mine.hl.tw18266707136079971656 : True := trivial
theorem Mine.hl.tw6166040093979514104 : True := trivial
theorem Mine.hl.tw16610513059769239954 : True := trivial
theorem Mine.hl.tw2593398556555081341 : True := trivial
theorem Mine.hl.tw3935515095498561797 : True := trivial
theorem Mine.hl.tw689272394558100116 : True := trivial
theorem Mine.hl.tw14925919238098994884 : True := trivial
theorem Mine.hl.tw8518790087536404122 : True := trivial
theorem Mine.hl.tw15468647969623019742 : True := trivial
theorem Mine.hl.tw10814554320128142361 : True := trivial
theorem Mine.hl.tw13273987881080536349 : True := trivial
theorem Mine.hl.tw7707821001852432739 : True := trivial
theorem Mine.hl.tw9116902092015646819 : True := trivial
theorem Mine.hl.tw14769308254868447841 : True := trivial
theorem Mine.hl.tw9822499406069003062 : True := trivial
theorem Mine.hl.tw12502155787507165474 : True := trivial
theorem Mine.hl.tw6077730791093293534 : True := trivial
theorem Mine.hl.tw6467121644507481310 : True := trivial
theorem Mine.hl.tw16105848670723812698 : True := trivial
theorem Mine.hl.tw18198593130037802403 : True := trivial
theorem Mine.hl.tw5541824872103189821 : True := trivial
theorem Mine.hl.tw2151917724266909170 : True := trivial
theorem Mine.hl.tw12771294985082365442 : True := trivial
theorem Mine.hl.tw14702938583798773827 : True := trivial
theorem Mine.hl.tw5058343123132201736 : True := trivial
theorem Mine.hl.tw12479787339320342323 : True := trivial
theorem Mine.hl.tw13607942205918253727 : True := trivial
theorem Mine.hl.tw402126400528850925 : True := trivial
theorem Mine.hl.tw18433069214525049012 : True := trivial
theorem Mine.hl.tw3684039582942215118 : True := trivial
theorem Mine.hl.tw14001023098506508987 : True := trivial
theorem Mine.hl.tw18269785791061456795 : True := trivial
theorem Mine.hl.tw7555234580479325470 : True := trivial
theorem Mine.hl.tw3270959328424277391 : True := trivial
theorem Mine.hl.tw5222539564095830774 : True := trivial
theorem Mine.hl.tw3102364785910603446 : True := trivial
theorem Mine.hl.tw15175354311862316803 : True := trivial
theorem Mine.hl.tw6407158261583092320 : True := trivial
theorem Mine.hl.tw7245958810608606861 : True := trivial
theorem Mine.hl.tw2219369333255388471 : True := trivial
theorem Mine.hl.tw7960237449672434469 : True := trivial
theorem Mine.hl.tw13177158181661575033 : True := trivial
theorem Mine.hl.tw4319951703827305351 : True := trivial
theorem Mine.hl.tw15566971143063071084 : True := trivial
theorem Mine.hl.tw2386427011893763484 : True := trivial
theorem Mine.hl.tw15726001457662735631 : True := trivial
theorem Mine.hl.tw5946983250466574400 : True := trivial
theorem Mine.hl.tw18118605374517062697 : True := trivial
theorem Mine.hl.tw2311664309837444652 : True := trivial
theorem Mine.hl.tw3434625604579508301 : True := trivial
theorem Mine.hl.tw14090122256527244415 : True := trivial
theorem Mine.hl.tw3658113027671509030 : True := trivial
theorem Mine.hl.tw2620851614713988899 : True := trivial
theorem Mine.hl.tw14062432462826185172 : True := trivial
theorem Mine.hl.tw13511309657079088668 : True := trivial
theorem Mine.hl.tw15710994102619978160 : True := trivial
theorem Mine.hl.tw13451827325005749649 : True := trivial
theorem Mine.hl.tw3297321286768288374 : True := trivial
theorem Mine.hl.tw14506817204316466401 : True := trivial
theorem Mine.hl.tw12228429089256965765 : True := trivial
theorem Mine.hl.tw14640025560645021664 : True := trivial
theorem Mine.hl.tw7139127324107150317 : True := trivial
theorem Mine.hl.tw17408967563837039924 : True := trivial
theorem Mine.hl.tw4899939680144838998 : True := trivial
theorem Mine.hl.tw8562290599123421403 : True := trivial
theorem Mine.hl.tw8308189976261534569 : True := trivial
theorem Mine.hl.tw5972906240471165095 : True := trivial
theorem Mine.hl.tw7264114238743548087 : True := trivial
theorem Mine.hl.tw11170274512268433693 : True := trivial
theorem Mine.hl.tw15229589926199253916 : True := trivial
theorem Mine.hl.tw5507462054399676605 : True := trivial
theorem Mine.hl.tw11347962291153660938 : True := trivial
theorem Mine.hl.tw13451453570609056637 : True := trivial
theorem Mine.hl.tw2998595082855453705 : True := trivial
theorem Mine.hl.tw8908159380839128082 : True := trivial
theorem Mine.hl.tw2451419768228486206 : True := trivial
theorem Mine.hl.tw18360406969582809696 : True := trivial
theorem Mine.hl.tw13738572691550108625 : True := trivial
theorem Mine.hl.tw8824239911758058885 : True := trivial
theorem Mine.hl.tw2360458434179128316 : True := trivial
theorem Mine.hl.tw13334116570454174683 : True := trivial
theorem Mine.hl.tw315618458041425576 : True := trivial
theorem Mine.hl.tw14423742523329631087 : True := trivial
theorem Mine.hl.tw3892527533998888832 : True := trivial
theorem Mine.hl.tw16331780639350166681 : True := trivial
theorem Mine.hl.tw6551114567651579323 : True := trivial
theorem Mine.hl.tw1013836112266589298 : True := trivial
theorem Mine.hl.tw17730154318484207027 : True := trivial
theorem Mine.hl.tw18317335121177739673 : True := trivial
theorem Mine.hl.tw3917722810782641780 : True := trivial
theorem Mine.hl.tw18375571547437388840 : True := trivial
theorem Mine.hl.tw1477713045759988696 : True := trivial
theorem Mine.hl.tw3093505077328556020 : True := trivial
theorem Mine.hl.tw1674660353702543412 : True := trivial
theorem Mine.hl.tw9598809396570002693 : True := trivial
theorem Mine.hl.tw17353359152989895991 : True := trivial
theorem Mine.hl.tw10472032836646669633 : True := trivial
theorem Mine.hl.tw14349639510276010366 : True := trivial
theorem Mine.hl.tw1517652430395025409 : True := trivial
theorem Mine.hl.tw15628192596054731204 : True := trivial
theorem Mine.hl.tw16659667152762624651 : True := trivial
theorem Mine.hl.tw769208088674290135 : True := trivial
theorem Mine.hl.tw3639798313420505090 : True := trivial
theorem Mine.hl.tw1879738612963051327 : True := trivial
theorem Mine.hl.tw10512464668144502810 : True := trivial
theorem Mine.hl.tw17643741942369274170 : True := trivial
theorem Mine.hl.tw3386250129361251050 : True := trivial
theorem Mine.hl.tw7166962531457019853 : True := trivial
theorem Mine.hl.tw17915029819964813271 : True := trivial
theorem Mine.hl.tw2811742825671127739 : True := trivial
theorem Mine.hl.tw17070374821977797709 : True := trivial
theorem Mine.hl.tw16648127552605387001 : True := trivial
theorem Mine.hl.tw3533474413021330631 : True := trivial
theorem Mine.hl.tw10056725790055848321 : True := trivial
theorem Mine.hl.tw14807372866700703586 : True := trivial
theorem Mine.hl.tw1489028375083480132 : True := trivial
theorem Mine.hl.tw1638171915039367948 : True := trivial
theorem Mine.hl.tw4346692520916130796 : True := trivial
theorem Mine.hl.tw922460174338117662 : True := trivial
theorem Mine.hl.tw10270665358637042680 : True := trivial
theorem Mine.hl.tw3866816773829057084 : True := trivial
theorem Mine.hl.tw1040535105539240335 : True := trivial
theorem Mine.hl.tw13513252486733269281 : True := trivial
theorem Mine.hl.tw13128732415786854503 : True := trivial
theorem Mine.hl.tw14029510776631118696 : True := trivial
theorem Mine.hl.tw9496552105062552142 : True := trivial
theorem Mine.hl.tw5233474553379387432 : True := trivial
theorem Mine.hl.tw1283230153208791129 : True := trivial
theorem Mine.hl.tw1655320272599262651 : True := trivial
theorem Mine.hl.tw1752411471783077012 : True := trivial
theorem Mine.hl.tw13167449536017471864 : True := trivial
theorem Mine.hl.tw8728530336545241285 : True := trivial
theorem Mine.hl.tw12349959014749359613 : True := trivial
theorem Mine.hl.tw12686867041028574248 : True := trivial
theorem Mine.hl.tw1490389878385664353 : True := trivial
theorem Mine.hl.tw2590922487872956755 : True := trivial
theorem Mine.hl.tw6509290485918990675 : True := trivial
theorem Mine.hl.tw4154497415953650635 : True := trivial
theorem Mine.hl.tw17551850163222802152 : True := trivial
theorem Mine.hl.tw17496382809419476253 : True := trivial
theorem Mine.hl.tw12968108267481341246 : True := trivial
theorem Mine.hl.tw15811785038824331031 : True := trivial
theorem Mine.hl.tw5846892818572257178 : True := trivial
theorem Mine.hl.tw12466000074346352726 : True := trivial
theorem Mine.hl.tw6655589955020093100 : True := trivial
theorem Mine.hl.tw15978184620080213816 : True := trivial
theorem Mine.hl.tw15755553410508459740 : True := trivial
theorem Mine.hl.tw14392626974640095989 : True := trivial
theorem Mine.hl.tw14338913699156730283 : True := trivial
theorem Mine.hl.tw894520067230406776 : True := trivial
theorem Mine.hl.tw14005053148274163323 : True := trivial
theorem Mine.hl.tw11574614546526216963 : True := trivial
theorem Mine.hl.tw13872380949272698774 : True := trivial
theorem Mine.hl.tw2489683228587067762 : True := trivial
theorem Mine.hl.tw6871189891071355814 : True := trivial
theorem Mine.hl.tw10134958783709761608 : True := trivial
theorem Mine.hl.tw2719135940994712470 : True := trivial
theorem Mine.hl.tw16077828370574400275 : True := trivial
theorem Mine.hl.tw6439299916616761045 : True := trivial
theorem Mine.hl.tw9058805247147171388 : True := trivial
theorem Mine.hl.tw2670376982464073022 : True := trivial
theorem Mine.hl.tw1192027893809962070 : True := trivial
theorem Mine.hl.tw6728252435035622186 : True := trivial
theorem Mine.hl.tw3909051450951887729 : True := trivial
theorem Mine.hl.tw3929274396497404973 : True := trivial
theorem Mine.hl.tw6508767946572422911 : True := trivial
theorem Mine.hl.tw14340275501709576047 : True := trivial
theorem Mine.hl.tw16641679946349632205 : True := trivial
theorem Mine.hl.tw14692910081650984698 : True := trivial
theorem Mine.hl.tw7997519873220701505 : True := trivial
theorem Mine.hl.tw7980054065922214538 : True := trivial
theorem Mine.hl.tw8475618862020847985 : True := trivial
theorem Mine.hl.tw16568004979143086671 : True := trivial
theorem Mine.hl.tw7789709763790534849 : True := trivial
theorem Mine.hl.tw5466630450645437828 : True := trivial
theorem Mine.hl.tw11104502181584453088 : True := trivial
theorem Mine.hl.tw13795592797671903053 : True := trivial
theorem Mine.hl.tw14705773866926696217 : True := trivial
theorem Mine.hl.tw4819047282524771832 : True := trivial
theorem Mine.hl.tw3185843094633433278 : True := trivial
theorem Mine.hl.tw10281696104142749342 : True := trivial
theorem Mine.hl.tw5850552159215920592 : True := trivial
theorem Mine.hl.tw18389244353195003797 : True := trivial
theorem Mine.hl.tw7940575047582736741 : True := trivial
theorem Mine.hl.tw703675126855791802 : True := trivial
theorem Mine.hl.tw16021969933503399379 : True := trivial
theorem Mine.hl.tw16440573283088312512 : True := trivial
theorem Mine.hl.tw3766643894807803921 : True := trivial
theorem Mine.hl.tw15299423171527592546 : True := trivial
theorem Mine.hl.tw3362886224410022184 : True := trivial
theorem Mine.hl.tw15974773245880556444 : True := trivial
theorem Mine.hl.tw9048282776105200699 : True := trivial
theorem Mine.hl.tw14703386273995499239 : True := trivial
theorem Mine.hl.tw5768252524232684075 : True := trivial
theorem Mine.hl.tw9021060684872217697 : True := trivial
theorem Mine.hl.tw7366575029913279159 : True := trivial
theorem Mine.hl.tw17399110695173994898 : True := trivial
theorem Mine.hl.tw17189942085465437369 : True := trivial
theorem Mine.hl.tw17173456676993251845 : True := trivial
theorem Mine.hl.tw8949015791047411379 : True := trivial
theorem Mine.hl.tw387498826086930808 : True := trivial
theorem Mine.hl.tw12107944102390473012 : True := trivial
theorem Mine.hl.tw13515955415092108952 : True := trivial
theorem Mine.hl.tw15135530069310760017 : True := trivial
theorem Mine.hl.tw8653895415139096825 : True := trivial
theorem Mine.hl.tw10281242400480146886 : True := trivial
theorem Mine.hl.tw15403879832368175436 : True := trivial
theorem Mine.hl.tw4357348540781005724 : True := trivial
theorem Mine.hl.tw4763738140358614903 : True := trivial
theorem Mine.hl.tw10067560312967440651 : True := trivial
theorem Mine.hl.tw14528338732870694147 : True := trivial
theorem Mine.hl.tw16325953936997255603 : True := trivial
theorem Mine.hl.tw13808004602242079183 : True := trivial
theorem Mine.hl.tw9904684800649572 : True := trivial
theorem Mine.hl.tw7288801419705701672 : True := trivial
theorem Mine.hl.tw3022201601944234299 : True := trivial
theorem Mine.hl.tw2364306332974586047 : True := trivial
theorem Mine.hl.tw5591964749064180348 : True := trivial
theorem Mine.hl.tw6020035639162213481 : True := trivial
theorem Mine.hl.tw5481106256224850646 : True := trivial
theorem Mine.hl.tw12326507542402633924 : True := trivial
theorem Mine.hl.tw15067541498367885621 : True := trivial
theorem Mine.hl.tw4073807796170394411 : True := trivial
theorem Mine.hl.tw1661506687208150473 : True := trivial
theorem Mine.hl.tw18383218559670761248 : True := trivial
theorem Mine.hl.tw6085555115550482918 : True := trivial
theorem Mine.hl.tw12425619395457821566 : True := trivial
theorem Mine.hl.tw2515105961934921376 : True := trivial
theorem Mine.hl.tw8070402655757364527 : True := trivial
theorem Mine.hl.tw10594338917997585799 : True := trivial
theorem Mine.hl.tw16659195469845343449 : True := trivial
theorem Mine.hl.tw12553126596667168261 : True := trivial
theorem Mine.hl.tw5172349805360894179 : True := trivial
theorem Mine.hl.tw17481524845954352905 : True := trivial
theorem Mine.hl.tw6803761726444424971 : True := trivial
theorem Mine.hl.tw14781328039346885248 : True := trivial
theorem Mine.hl.tw3834578205785414611 : True := trivial
theorem Mine.hl.tw4876383605978118256 : True := trivial
theorem Mine.hl.tw15145524328622484249 : True := trivial
theorem Mine.hl.tw4888348293085457010 : True := trivial
theorem Mine.hl.tw16401832065408421646 : True := trivial
theorem Mine.hl.tw6572459778015380138 : True := trivial
theorem Mine.hl.tw10087273718333927597 : True := trivial
theorem Mine.hl.tw14148078157815625749 : True := trivial
theorem Mine.hl.tw3802644729873229327 : True := trivial
theorem Mine.hl.tw17091522999182212159 : True := trivial
theorem Mine.hl.tw11410012897681127626 : True := trivial
theorem Mine.hl.tw17275339660992635619 : True := trivial
theorem Mine.hl.tw6743736488042851121 : True := trivial
theorem Mine.hl.tw8139612728715883166 : True := trivial
theorem Mine.hl.tw200749964555189013 : True := trivial
theorem Mine.hl.tw1607845725783210331 : True := trivial
theorem Mine.hl.tw9275868525747543354 : True := trivial
theorem Mine.hl.tw3917315442068030278 : True := trivial
theorem Mine.hl.tw7753602664708333851 : True := trivial
theorem Mine.hl.tw9924268486091359094 : True := trivial
theorem Mine.hl.tw11367624965330313015 : True := trivial
theorem Mine.hl.tw13586301408834342453 : True := trivial
theorem Mine.hl.tw7560859952916300672 : True := trivial
theorem Mine.hl.tw6818532675895801449 : True := trivial
theorem Mine.hl.tw17283835703309068512 : True := trivial
theorem Mine.hl.tw11500123073999799626 : True := trivial
theorem Mine.hl.tw5123617040299186339 : True := trivial
theorem Mine.hl.tw14681961479376653606 : True := trivial
theorem Mine.hl.tw1546635082665606156 : True := trivial
theorem Mine.hl.tw17073080699635642649 : True := trivial
theorem Mine.hl.tw14161870899322845853 : True := trivial
theorem Mine.hl.tw14585275881241489777 : True := trivial
theorem Mine.hl.tw9659851930174315220 : True := trivial
theorem Mine.hl.tw11616574454098396185 : True := trivial
theorem Mine.hl.tw12037155897206056335 : True := trivial
theorem Mine.hl.tw870082127142514102 : True := trivial
theorem Mine.hl.tw6566434008420266771 : True := trivial
theorem Mine.hl.tw10053973708594666032 : True := trivial
theorem Mine.hl.tw6458110650660217728 : True := trivial
theorem Mine.hl.tw8375296847185584183 : True := trivial
theorem Mine.hl.tw1946346512072996401 : True := trivial
theorem Mine.hl.tw47002931875443850 : True := trivial
theorem Mine.hl.tw17005883297239718254 : True := trivial
theorem Mine.hl.tw295466432311690561 : True := trivial
theorem Mine.hl.tw16213289055913578419 : True := trivial
theorem Mine.hl.tw15635046998611026790 : True := trivial
theorem Mine.hl.tw4358954002579746305 : True := trivial
theorem Mine.hl.tw8125239891073794562 : True := trivial
theorem Mine.hl.tw2721871212100837023 : True := trivial
theorem Mine.hl.tw6291380006956238399 : True := trivial
theorem Mine.hl.tw5016204260438254685 : True := trivial
theorem Mine.hl.tw11960746256739114966 : True := trivial
theorem Mine.hl.tw18146077005578330902 : True := trivial
theorem Mine.hl.tw14522076577212393319 : True := trivial
theorem Mine.hl.tw5121812053393351430 : True := trivial
theorem Mine.hl.tw15571936688987866692 : True := trivial
theorem Mine.hl.tw12578798098955550145 : True := trivial
theorem Mine.hl.tw755535654781143236 : True := trivial
theorem Mine.hl.tw11884185636175879210 : True := trivial
theorem Mine.hl.tw8720647006547382394 : True := trivial
theorem Mine.hl.tw16931561712389081295 : True := trivial
theorem Mine.hl.tw3245951657512982667 : True := trivial
theorem Mine.hl.tw9006328687107622479 : True := trivial
theorem Mine.hl.tw15491307421446482099 : True := trivial
theorem Mine.hl.tw4890879995227908150 : True := trivial
theorem Mine.hl.tw16814625195125186476 : True := trivial
theorem Mine.hl.tw15819550329262285797 : True := trivial
theorem Mine.hl.tw12082807381454559749 : True := trivial
theorem Mine.hl.tw6768188534606629064 : True := trivial
theorem Mine.hl.tw11820175317565956761 : True := trivial
theorem Mine.hl.tw4544436651218055700 : True := trivial
theorem Mine.hl.tw11824371776068247502 : True := trivial
theorem Mine.hl.tw10631598850097245319 : True := trivial
theorem Mine.hl.tw3573831359021869915 : True := trivial
theorem Mine.hl.tw15040832406105871201 : True := trivial
theorem Mine.hl.tw7629528212275341861 : True := trivial
theorem Mine.hl.tw14515301028331044674 : True := trivial
theorem Mine.hl.tw8694463114074361530 : True := trivial
theorem Mine.hl.tw17996199686182819879 : True := trivial
theorem Mine.hl.tw10326863362329617655 : True := trivial
theorem Mine.hl.tw10073656937430626699 : True := trivial
theorem Mine.hl.tw10979305275081272568 : True := trivial
theorem Mine.hl.tw1592176370794819909 : True := trivial
theorem Mine.hl.tw14014256384350206169 : True := trivial
theorem Mine.hl.tw5007339743653018211 : True := trivial
theorem Mine.hl.tw11362429560704382620 : True := trivial
theorem Mine.hl.tw4762598996517091171 : True := trivial
theorem Mine.hl.tw13944235697518977905 : True := trivial
theorem Mine.hl.tw1608217123088469437 : True := trivial
theorem Mine.hl.tw14230404486182561148 : True := trivial
theorem Mine.hl.tw5041556146974841507 : True := trivial
theorem Mine.hl.tw16358724256034316118 : True := trivial
theorem Mine.hl.tw15238592777128183700 : True := trivial
theorem Mine.hl.tw5998756262927690994 : True := trivial
theorem Mine.hl.tw1142016554139594801 : True := trivial
theorem Mine.hl.tw12002108368168015693 : True := trivial
theorem Mine.hl.tw12113864901636926497 : True := trivial
theorem Mine.hl.tw4128379357189937412 : True := trivial
theorem Mine.hl.tw13197782898919581289 : True := trivial
theorem Mine.hl.tw12340374257247778893 : True := trivial
theorem Mine.hl.tw17145970735278281087 : True := trivial
theorem Mine.hl.tw24926196180787364 : True := trivial
theorem Mine.hl.tw9324837279990871305 : True := trivial
theorem Mine.hl.tw13521322221093957334 : True := trivial
theorem Mine.hl.tw1653708724493197058 : True := trivial
theorem Mine.hl.tw7562940236988900937 : True := trivial
theorem Mine.hl.tw8098337130934660647 : True := trivial
theorem Mine.hl.tw15114033329102924452 : True := trivial
theorem Mine.hl.tw555598117077817286 : True := trivial
theorem Mine.hl.tw12706173232729163329 : True := trivial
theorem Mine.hl.tw7113899462275323465 : True := trivial
theorem Mine.hl.tw15356980439913271070 : True := trivial
theorem Mine.hl.tw7693800796531615308 : True := trivial
theorem Mine.hl.tw6085938836612051210 : True := trivial
theorem Mine.hl.tw14436454112811824789 : True := trivial
theorem Mine.hl.tw2757060891344044592 : True := trivial
theorem Mine.hl.tw4045410242267432236 : True := trivial
theorem Mine.hl.tw5644122108930766067 : True := trivial
theorem Mine.hl.tw6328801630013290467 : True := trivial
theorem Mine.hl.tw367320415945741548 : True := trivial
theorem Mine.hl.tw3540935604381999091 : True := trivial
theorem Mine.hl.tw264460569160966400 : True := trivial
theorem Mine.hl.tw8512814923675377176 : True := trivial
theorem Mine.hl.tw556508192079238759 : True := trivial
theorem Mine.hl.tw6267768837732266825 : True := trivial
theorem Mine.hl.tw6740891869700929057 : True := trivial
theorem Mine.hl.tw2218565758009093748 : True := trivial
theorem Mine.hl.tw14294114443813365289 : True := trivial
theorem Mine.hl.tw12691569241612565863 : True := trivial
theorem Mine.hl.tw12356872416649401143 : True := trivial
theorem Mine.hl.tw15500040282393815428 : True := trivial
theorem Mine.hl.tw16909675058907786971 : True := trivial
theorem Mine.hl.tw2343632072569297374 : True := trivial
theorem Mine.hl.tw14449267944578564021 : True := trivial
theorem Mine.hl.tw9933545053484667585 : True := trivial
theorem Mine.hl.tw3904139877444256786 : True := trivial
theorem Mine.hl.tw1641513417493524943 : True := trivial
theorem Mine.hl.tw16373861771501708945 : True := trivial
theorem Mine.hl.tw12805003779937219307 : True := trivial
theorem Mine.hl.tw7066917889754809116 : True := trivial
theorem Mine.hl.tw5414929225286011838 : True := trivial
theorem Mine.hl.tw12678019047245685278 : True := trivial
theorem Mine.hl.tw7402335391805971190 : True := trivial
theorem Mine.hl.tw5708801637543517030 : True := trivial
theorem Mine.hl.tw7700001902879207592 : True := trivial
theorem Mine.hl.tw8776005175377690500 : True := trivial
theorem Mine.hl.tw11171512853472462941 : True := trivial
theorem Mine.hl.tw5651562219462570183 : True := trivial
theorem Mine.hl.tw15519703981317212736 : True := trivial
theorem Mine.hl.tw16454953488476577567 : True := trivial
theorem Mine.hl.tw17367831473395189697 : True := trivial
theorem Mine.hl.tw6378299017863724980 : True := trivial
theorem Mine.hl.tw13514729824466892486 : True := trivial
theorem Mine.hl.tw14003780521012443036 : True := trivial
theorem Mine.hl.tw17364330045789385618 : True := trivial
theorem Mine.hl.tw9365764524981483305 : True := trivial
theorem Mine.hl.tw14851144210728518553 : True := trivial
theorem Mine.hl.tw5061464051303088159 : True := trivial
theorem Mine.hl.tw9770128257199953396 : True := trivial
theorem Mine.hl.tw14531892806783305175 : True := trivial
theorem Mine.hl.tw12415565758175653663 : True := trivial
theorem Mine.hl.tw10671826613473769739 : True := trivial
theorem Mine.hl.tw4627140267960040470 : True := trivial
theorem Mine.hl.tw7390035571135099452 : True := trivial
theorem Mine.hl.tw7098747549891976013 : True := trivial
theorem Mine.hl.tw6810863817770553421 : True := trivial
theorem Mine.hl.tw11957961544446345316 : True := trivial
theorem Mine.hl.tw638316054823709077 : True := trivial
theorem Mine.hl.tw16246357295970057675 : True := trivial
theorem Mine.hl.tw14337193892479587542 : True := trivial
theorem Mine.hl.tw11421531345984986549 : True := trivial
theorem Mine.hl.tw11581285867100590078 : True := trivial
theorem Mine.hl.tw13184833688038687628 : True := trivial
theorem Mine.hl.tw17937198226413326045 : True := trivial
theorem Mine.hl.tw18194817171894414707 : True := trivial
theorem Mine.hl.tw7443538591383460243 : True := trivial
theorem Mine.hl.tw13244622799180300093 : True := trivial
theorem Mine.hl.tw8472631090277787546 : True := trivial
theorem Mine.hl.tw643639673314308557 : True := trivial
theorem Mine.hl.tw14503846390599994360 : True := trivial
theorem Mine.hl.tw1040027929451803006 : True := trivial
theorem Mine.hl.tw6769423139779656912 : True := trivial
theorem Mine.hl.tw1571291983476552496 : True := trivial
theorem Mine.hl.tw11546459740228979438 : True := trivial
theorem Mine.hl.tw6046830183383639320 : True := trivial
theorem Mine.hl.tw6948794663867864209 : True := trivial
theorem Mine.hl.tw8674827971199538198 : True := trivial
theorem Mine.hl.tw14003210591452655108 : True := trivial
theorem Mine.hl.tw8631160276378464391 : True := trivial
theorem Mine.hl.tw17818705585753721301 : True := trivial
theorem Mine.hl.tw16383772064829197135 : True := trivial
theorem Mine.hl.tw16789446744860482166 : True := trivial
theorem Mine.hl.tw3906708184927904967 : True := trivial
theorem Mine.hl.tw9179810565279320005 : True := trivial
theorem Mine.hl.tw7520961089587914845 : True := trivial
theorem Mine.hl.tw3475014550044942601 : True := trivial
theorem Mine.hl.tw15108664214831794772 : True := trivial
theorem Mine.hl.tw3965566029516214226 : True := trivial
theorem Mine.hl.tw13289556821877204822 : True := trivial
theorem Mine.hl.tw17272658073876590038 : True := trivial
theorem Mine.hl.tw6310469590630416251 : True := trivial
theorem Mine.hl.tw2157636939943351208 : True := trivial
theorem Mine.hl.tw13377579852091539698 : True := trivial
theorem Mine.hl.tw10458745825552140979 : True := trivial
theorem Mine.hl.tw6769308679210295570 : True := trivial
theorem Mine.hl.tw15955646674358970165 : True := trivial
theorem Mine.hl.tw18056287641724197023 : True := trivial
theorem Mine.hl.tw2102154672133541998 : True := trivial
theorem Mine.hl.tw14002473278787575864 : True := trivial
theorem Mine.hl.tw14761335589619821541 : True := trivial
theorem Mine.hl.tw13308272444675799976 : True := trivial
theorem Mine.hl.tw6036466684060774117 : True := trivial
theorem Mine.hl.tw12801026936963480362 : True := trivial
theorem Mine.hl.tw9381079948766367669 : True := trivial
theorem Mine.hl.tw18431454914558993136 : True := trivial
theorem Mine.hl.tw2513935127305119463 : True := trivial
theorem Mine.hl.tw8983214612803038972 : True := trivial
theorem Mine.hl.tw8323767231391988966 : True := trivial
theorem Mine.hl.tw511701529103323387 : True := trivial
theorem Mine.hl.tw11585395019056351332 : True := trivial
theorem Mine.hl.tw1447961054132910463 : True := trivial
theorem Mine.hl.tw3938602367518469313 : True := trivial
theorem Mine.hl.tw2856222875381154194 : True := trivial
theorem Mine.hl.tw17845954428871881319 : True := trivial
theorem Mine.hl.tw1442797873964979139 : True := trivial
theorem Mine.hl.tw5337833971762753296 : True := trivial
theorem Mine.hl.tw2527980536583522838 : True := trivial
theorem Mine.hl.tw13986342770949803755 : True := trivial
theorem Mine.hl.tw12796035509196119400 : True := trivial
theorem Mine.hl.tw3416577396216222330 : True := trivial
theorem Mine.hl.tw18217387466239796066 : True := trivial
theorem Mine.hl.tw4536508238786620676 : True := trivial
theorem Mine.hl.tw12948971378573258612 : True := trivial
theorem Mine.hl.tw8391739795718732619 : True := trivial
theorem Mine.hl.tw11442105788808074408 : True := trivial
theorem Mine.hl.tw9580060540356043443 : True := trivial
theorem Mine.hl.tw214675478589333258 : True := trivial
theorem Mine.hl.tw831765114783956346 : True := trivial
theorem Mine.hl.tw445920014364062174 : True := trivial
theorem Mine.hl.tw16612486240128371927 : True := trivial
theorem Mine.hl.tw1040269412774285966 : True := trivial
theorem Mine.hl.tw18289511674912629681 : True := trivial
theorem Mine.hl.tw11231194149797750502 : True := trivial
theorem Mine.hl.tw6910592658476148313 : True := trivial
theorem Mine.hl.tw18307992308958744471 : True := trivial
theorem Mine.hl.tw292816310863954162 : True := trivial
theorem Mine.hl.tw3212655002252366098 : True := trivial
theorem Mine.hl.tw6515108686279116698 : True := trivial
theorem Mine.hl.tw14462882813651494884 : True := trivial
theorem Mine.hl.tw17520343722273365487 : True := trivial
theorem Mine.hl.tw2712781194195619235 : True := trivial
theorem Mine.hl.tw13681531096953298069 : True := trivial
theorem Mine.hl.tw7103259524062065771 : True := trivial
theorem Mine.hl.tw9259261475755873078 : True := trivial
theorem Mine.hl.tw11430522941550962828 : True := trivial
theorem Mine.hl.tw9820218884018500268 : True := trivial
theorem Mine.hl.tw6429752573501708714 : True := trivial
theorem Mine.hl.tw14293914087324867043 : True := trivial
theorem Mine.hl.tw10702782013064626166 : True := trivial
theorem Mine.hl.tw12028300137302327453 : True := trivial
theorem Mine.hl.tw2648700120155414210 : True := trivial
theorem Mine.hl.tw12716019866169736700 : True := trivial
theorem Mine.hl.tw4764202802666679348 : True := trivial
theorem Mine.hl.tw8832258269039182029 : True := trivial
theorem Mine.hl.tw11670219971767078364 : True := trivial
theorem Mine.hl.tw7567177563067319589 : True := trivial
theorem Mine.hl.tw8650588931032103090 : True := trivial
theorem Mine.hl.tw17115627761164433543 : True := trivial
theorem Mine.hl.tw5745462151746460801 : True := trivial
theorem Mine.hl.tw2225098225924323059 : True := trivial
theorem Mine.hl.tw5675037256842580223 : True := trivial
theorem Mine.hl.tw13445875576026251027 : True := trivial
theorem Mine.hl.tw9396964700664605258 : True := trivial
theorem Mine.hl.tw4442029391486357949 : True := trivial
theorem Mine.hl.tw15046622168182444460 : True := trivial
theorem Mine.hl.tw2121853609458972682 : True := trivial
theorem Mine.hl.tw2637936702971907866 : True := trivial
theorem Mine.hl.tw886442322657907161 : True := trivial
theorem Mine.hl.tw16644848420036107226 : True := trivial
theorem Mine.hl.tw7765800358335280696 : True := trivial
theorem Mine.hl.tw2179251906832508453 : True := trivial
theorem Mine.hl.tw10734272814046111645 : True := trivial
theorem Mine.hl.tw11208030889160907926 : True := trivial
theorem Mine.hl.tw6311375985480512460 : True := trivial
theorem Mine.hl.tw7979654208844349861 : True := trivial
theorem Mine.hl.tw15646866114999925474 : True := trivial
theorem Mine.hl.tw5927740696883378209 : True := trivial
theorem Mine.hl.tw4632090761665411938 : True := trivial
theorem Mine.hl.tw1829565131901442259 : True := trivial
theorem Mine.hl.tw12149168445772253440 : True := trivial
theorem Mine.hl.tw4616694904490928732 : True := trivial
theorem Mine.hl.tw3554859749291336866 : True := trivial
theorem Mine.hl.tw13271346008802532484 : True := trivial
theorem Mine.hl.tw7007211697524521577 : True := trivial
theorem Mine.hl.tw5418505402106610847 : True := trivial
theorem Mine.hl.tw11896254413697420994 : True := trivial
theorem Mine.hl.tw14187494918988936961 : True := trivial
theorem Mine.hl.tw17501261645081569314 : True := trivial
theorem Mine.hl.tw5617347892228178826 : True := trivial
theorem Mine.hl.tw8012542002930999742 : True := trivial
theorem Mine.hl.tw15078268818137405266 : True := trivial
theorem Mine.hl.tw8511608460686729225 : True := trivial
theorem Mine.hl.tw18343470129250027071 : True := trivial
theorem Mine.hl.tw17465385937129968720 : True := trivial
theorem Mine.hl.tw1215276410982402677 : True := trivial
theorem Mine.hl.tw667654916333505077 : True := trivial
theorem Mine.hl.tw6455401370958211185 : True := trivial
theorem Mine.hl.tw6841461729160062137 : True := trivial
theorem Mine.hl.tw10361187695979141011 : True := trivial
theorem Mine.hl.tw10853321866073337931 : True := trivial
theorem Mine.hl.tw8646598915280597210 : True := trivial
theorem Mine.hl.tw6367879075260304329 : True := trivial
theorem Mine.hl.tw2841302716666914783 : True := trivial
theorem Mine.hl.tw14981920172577920359 : True := trivial
theorem Mine.hl.tw3440553882477556655 : True := trivial
theorem Mine.hl.tw5564699827292535421 : True := trivial
theorem Mine.hl.tw876600439519223233 : True := trivial
theorem Mine.hl.tw12876422052170527617 : True := trivial
theorem Mine.hl.tw17834220629241855365 : True := trivial
theorem Mine.hl.tw7489228070301230394 : True := trivial
theorem Mine.hl.tw12046386364113824940 : True := trivial
theorem Mine.hl.tw11508473641492573256 : True := trivial
theorem Mine.hl.tw2534944882773295995 : True := trivial
theorem Mine.hl.tw12367768008634204991 : True := trivial
theorem Mine.hl.tw3482427722051561066 : True := trivial
theorem Mine.hl.tw4784609910858325393 : True := trivial
theorem Mine.hl.tw10429712266545171140 : True := trivial
theorem Mine.hl.tw2400096145104246768 : True := trivial
theorem Mine.hl.tw6345927681869227816 : True := trivial
theorem Mine.hl.tw14445861382280374720 : True := trivial
theorem Mine.hl.tw12764281233868062919 : True := trivial
theorem Mine.hl.tw8544256882588695227 : True := trivial
theorem Mine.hl.tw11301897086663217560 : True := trivial
theorem Mine.hl.tw1675934016237467496 : True := trivial
theorem Mine.hl.tw17621632636088977444 : True := trivial
theorem Mine.hl.tw1840604187031333115 : True := trivial
theorem Mine.hl.tw14976836857929817358 : True := trivial
theorem Mine.hl.tw5272668434050199987 : True := trivial
theorem Mine.hl.tw1492311417268561180 : True := trivial
theorem Mine.hl.tw12093805693577453822 : True := trivial
theorem Mine.hl.tw435985068060032210 : True := trivial
theorem Mine.hl.tw646572452179535309 : True := trivial
theorem Mine.hl.tw3397777752899570254 : True := trivial
theorem Mine.hl.tw1603725080527486516 : True := trivial
theorem Mine.hl.tw11097526398489039932 : True := trivial
theorem Mine.hl.tw17261778162482812928 : True := trivial
theorem Mine.hl.tw12964032865849556515 : True := trivial
theorem Mine.hl.tw16491034584272935170 : True := trivial
theorem Mine.hl.tw16837673004412597743 : True := trivial
theorem Mine.hl.tw8704651547352569580 : True := trivial
theorem Mine.hl.tw1510309984266131424 : True := trivial
theorem Mine.hl.tw5220915991727366279 : True := trivial
theorem Mine.hl.tw12945493636606310198 : True := trivial
theorem Mine.hl.tw9498019699935654311 : True := trivial
theorem Mine.hl.tw6213103250899170892 : True := trivial
theorem Mine.hl.tw3733808468220802556 : True := trivial
theorem Mine.hl.tw5922665790515857065 : True := trivial
theorem Mine.hl.tw1348093756553132211 : True := trivial
theorem Mine.hl.tw13114475427718997436 : True := trivial
theorem Mine.hl.tw17835421042250113804 : True := trivial
theorem Mine.hl.tw40549099937767241 : True := trivial
theorem Mine.hl.tw2224751305573636401 : True := trivial
theorem Mine.hl.tw4755321560813776430 : True := trivial
theorem Mine.hl.tw15794757338624378198 : True := trivial
theorem Mine.hl.tw5980973857086144578 : True := trivial
theorem Mine.hl.tw17925203514161455433 : True := trivial
theorem Mine.hl.tw4028293126222273294 : True := trivial
theorem Mine.hl.tw11964450689098409487 : True := trivial
theorem Mine.hl.tw10233857760621977002 : True := trivial
theorem Mine.hl.tw15933204877943239902 : True := trivial
theorem Mine.hl.tw14441292347242984972 : True := trivial
theorem Mine.hl.tw5781564581299199950 : True := trivial
theorem Mine.hl.tw16629072865819042451 : True := trivial
theorem Mine.hl.tw5045064976269264197 : True := trivial
theorem Mine.hl.tw2950652669016227508 : True := trivial
theorem Mine.hl.tw6060834885329048492 : True := trivial
theorem Mine.hl.tw18116355550832423522 : True := trivial
theorem Mine.hl.tw7684754598121072743 : True := trivial
theorem Mine.hl.tw14341494916674511413 : True := trivial
theorem Mine.hl.tw17793675258714846563 : True := trivial
theorem Mine.hl.tw10343311402063923142 : True := trivial
theorem Mine.hl.tw6722692732743354970 : True := trivial
theorem Mine.hl.tw8268818896065968754 : True := trivial
theorem Mine.hl.tw15048424391953535623 : True := trivial
theorem Mine.hl.tw3785964124352177269 : True := trivial
theorem Mine.hl.tw17523552443169405589 : True := trivial
theorem Mine.hl.tw10100039578118688284 : True := trivial
theorem Mine.hl.tw17209192972046071332 : True := trivial
theorem Mine.hl.tw5470628216086154855 : True := trivial
theorem Mine.hl.tw13373032570195818809 : True := trivial
theorem Mine.hl.tw6251838304955542351 : True := trivial
theorem Mine.hl.tw51311591194437400 : True := trivial
theorem Mine.hl.tw2343358988328493845 : True := trivial
theorem Mine.hl.tw3637609970919241437 : True := trivial
theorem Mine.hl.tw17280785669212101170 : True := trivial
theorem Mine.hl.tw11026016649159126189 : True := trivial
theorem Mine.hl.tw4426783400863504133 : True := trivial
theorem Mine.hl.tw13809817929995637871 : True := trivial
theorem Mine.hl.tw10744216222218872740 : True := trivial
theorem Mine.hl.tw7815611032581044153 : True := trivial
theorem Mine.hl.tw17433152478847592410 : True := trivial
theorem Mine.hl.tw17438563081001004852 : True := trivial
theorem Mine.hl.tw12480468719422113088 : True := trivial
theorem Mine.hl.tw11343825910283197556 : True := trivial
theorem Mine.hl.tw9909643842158082461 : True := trivial
theorem Mine.hl.tw922296725527613479 : True := trivial
theorem Mine.hl.tw17791833239687013931 : True := trivial
theorem Mine.hl.tw3840391240708734675 : True := trivial
theorem Mine.hl.tw16700166104333600888 : True := trivial
theorem Mine.hl.tw17764773227307267295 : True := trivial
theorem Mine.hl.tw783651857616702372 : True := trivial
theorem Mine.hl.tw8518029329194939907 : True := trivial
theorem Mine.hl.tw11927386488884369121 : True := trivial
theorem Mine.hl.tw682265128832272173 : True := trivial
theorem Mine.hl.tw16156976951375337989 : True := trivial
theorem Mine.hl.tw6962637259381551053 : True := trivial
theorem Mine.hl.tw12360962035023227273 : True := trivial
theorem Mine.hl.tw11567186180460774035 : True := trivial
namespace Mine
set_option maxRecDepth 100000
set_option maxHeartbeats 8000000
set_option Elab.async true in
theorem ok (h : PySem.Challenge.rw_qz0105_01.row.Holds) : PySem.Challenge.rw_qz0105_01.Holds := by
  w_on; o_law
  exact h
section
local macro_rules | `(tactic| o_law) => `(tactic| refine' Mine.ok ?_)
local macro_rules | `(tactic| refine $e) => `(tactic| (refine' $e; (try ((case' hl => refine' And.left ?HH); (case' hc => exact And.right ?HH)))))
open_top k for PySem.Challenge.rw_qz0105_01
end
def pa {A B C : Prop} (_ : A ∧ B → C) : Prop := A
def pb {A B C : Prop} (_ : A ∧ B → C) : Prop := B
theorem snd2 {A B : Prop} (_ : A) (b : B) : B := b
section
set_option hygiene false in
local macro_rules | `(tactic| refine $e) => `(tactic| (exact (Mine.k ⟨?hl, h⟩).2))
set_option Elab.async true in
theorem hl : pb Mine.k → pa Mine.k := by
  intro h
  delta Mine.pa
  refine' snd2 (A := PySem.Challenge.rw_qz0105_01.row.Holds) ?d ?hl
  o_head Hook.none
end
theorem fill_all : (PySem.Challenge.rw_qz0105_01.writes = false) → Mine.k.heap_1 = Mine.k.heap_1 := by
  w_top off
  k_fill
  intro _; rfl
theorem rs_base : True := by
  w_top off
  trivial
noncomputable abbrev LO : List Str := looseW Mine.k.view_1 [Str.ofString "UNDOERS", Str.ofString "Limits"]
abbrev Led := List (Addr × Obj)
/-- what a call of the def at f with vs over the ledger news does: it comes back with r over news', Post says which -/
def Spec (w : World) (f : Addr) (vs : List Value) (news : Led) (D : Nat) (Post : Value → Led → Prop) : Prop :=
  ∀ (dp un : Nat) (gd : Option (List Code)) (cn : Str) (cs : Scope) (a : Addr) (ccd : Value) (cl : List (Str × Addr)) (outer : List Env) (A₀ : Around) (base h₀ : Heap) (L : Addr) (m : Str → Option Value) (s : Shared)
    (mean : ExcName → Option Value) (mg mb : Str → Option Value) (Q E : Value → Shared → Prop),
    Below A₀ base outer h₀ → Fr h₀ L s.heap m → (Mine.k.heap_1 w.params).In h₀ → News h₀ L s.heap news → Top Mine.k.view_1 LO mean mg mb h₀ → cs.kind = .function → dp + D < recursionLimit → un + 8 * D + 200 < cLine →
    (∀ r news' h' tk', Fr h₀ L h' m → News h₀ L h' news' → Post r news' → Q r { s with heap := h', toks := tk' }) →
    wpAny (model PySem.Challenge.rw_qz0105_01.row.prog w) (ktrTop dp un gd cn cs L a ccd cl outer) (call (.ref f) vs) Q E s

theorem Spec.use {w : World} {f : Addr} {vs : List Value} {news : Led} {D : Nat} {Post : Value → Led → Prop} (S : Spec w f vs news D Post)
    {dp un : Nat} {gd : Option (List Code)} {cn : Str} {cs : Scope} {a : Addr} {ccd : Value} {cl : List (Str × Addr)} {outer : List Env} {A₀ : Around} {base h₀ : Heap} {L : Addr} {m : Str → Option Value} {s : Shared}
    {mean : ExcName → Option Value} {mg mb : Str → Option Value} {Q E : Value → Shared → Prop}
    (B : Below A₀ base outer h₀) (F : Fr h₀ L s.heap m) (X : (Mine.k.heap_1 w.params).In h₀) (N : News h₀ L s.heap news) (T : Top Mine.k.view_1 LO mean mg mb h₀) (hk : cs.kind = .function) (hd : dp + D < recursionLimit) (hu : un + 8 * D + 200 < cLine)
    (h : ∀ r news' h' tk', Fr h₀ L h' m → News h₀ L h' news' → Post r news' → Q r { s with heap := h', toks := tk' }) :
    wpAny (model PySem.Challenge.rw_qz0105_01.row.prog w) (ktrTop dp un gd cn cs L a ccd cl outer) (call (.ref f) vs) Q E s := S _ _ _ _ _ _ _ _ _ _ _ _ _ _ _ _ _ _ _ _ B F X N T hk hd hu h

theorem mem_list {h₀ h : Heap} {L l : Addr} {news : Led} {vs : List Value} {n : Nat} (N : News h₀ L h news) (hm : (l, listOf vs.toArray n) ∈ news) : h.IsList l vs.toArray := PySem.IsL.isList (n := n) (N _ hm).1
theorem News.sub1 {h₀ h : Heap} {L : Addr} {l l' : Led} (N : News h₀ L h l) (hs : ∀ p ∈ l', p ∈ l) : News h₀ L h l' := fun p hp => N p (hs p hp)
theorem allLt_mem {d : Addr} : ∀ {l : Led}, AllLt d l → ∀ p ∈ l, p.1 < d
  | [], _, _, h => nomatch h
  | _ :: _, x, p, h => by
    rcases List.mem_cons.mp h with rfl | h
    · exact x.1
    · exact allLt_mem x.2 p h
theorem allLt_ne {d : Addr} {l : Led} (x : AllLt d l) : ∀ p ∈ l, p.1 ≠ d := fun p hp => Nat.ne_of_lt (allLt_mem x p hp)

/-- a tuple as the machine lays it -/
noncomputable abbrev tupO (vs : List Value) : Obj := { cls := .type "tuple", data := .seq vs.toArray }
section
variable {prog : Program} {w : World} {A : Around} {E : Value → Shared → Prop} {s : Shared} {h₀ : Heap} {L : Addr} {m : Str → Option Value} {news : Led}
theorem len_led {l : Addr} {vs : List Value} {n : Nat} {Q : Value → Shared → Prop} (N : News h₀ L s.heap news) (hm : (l, listOf vs.toArray n) ∈ news) (hb : vs.length ≤ 1000)
    (h : Q (.int vs.length (s.toks + 1)) { s with toks := s.toks + 1 + 1 }) : wpAny (model prog w) A (call (.builtin "len") [.ref l]) Q E s :=
  len_list (mem_list N hm) (by rw [List.size_toArray]; omega) (by rw [List.size_toArray]; exact h)
theorem item_led {value slice : PySem.Expr} {l : Addr} {vs : List Value} {n : Nat} {k : Int} {u : Tok} {x : Value} {Q : Value → Shared → Prop} (N : News h₀ L s.heap news) (hm : (l, listOf vs.toArray n) ∈ news) (hx : vs[k.toNat]? = some x) (h0 : 0 ≤ k) (hfit : k < 2 ^ 63)
    (h : Q x s) (hs : subscripted slice false (.ref l) (.int k u) = operate [.ref l, .int k u] (getItem (.ref l) (.int k u))) :
    wpAny (model prog w) A (subscriptTail value slice (.ref l) (.int k u)) Q E s :=
  tail_any (mem_list N hm).typeIs slot_list_getitem.lookup (wpAny_getItem_list (mem_list N hm) h0 hfit (by simpa using hx) h) hs
end

/-- the program's text, as the rows name it -/
noncomputable abbrev PG : Program := PySem.Challenge.rw_qz0105_01.row.prog

/-! The data: what a match is -/
structure MD where
  text : Str
  gs : List (Option (Int × Int))
  nms : List (Str × List Int)
/-- what group i holds -/
noncomputable def MD.cut (M : MD) (i : Int) : Option Str := match M.gs[i.toNat]? with
  | some (some (b, e)) => some (Txt.slice M.text (some b) (some e))
  | _ => none
noncomputable def MD.texts (M : MD) (is : List Int) : List Str := is.filterMap M.cut
noncomputable def MD.found (M : MD) : List (Str × Str) := M.nms.filterMap fun p => (M.texts p.2).head?.map fun t => (p.1, t)
structure MD.Ok (M : MD) : Prop where
  tlen : M.text.length ≤ 8
  glen : M.gs.length ≤ 5
  gok : ∀ b e, some (b, e) ∈ M.gs → 0 ≤ b ∧ b ≤ e ∧ e ≤ M.text.length
  nlen : M.nms.length ≤ 3
  nodup : (M.nms.map (·.1)).Nodup
  tok : PyData.strOk M.text = true
  nok : ∀ p ∈ M.nms, PyData.strOk p.1 = true
  idx : ∀ p ∈ M.nms, p.2.length ≤ 4 ∧ ∀ i ∈ p.2, 0 ≤ i ∧ i < M.gs.length

def AllOk (xs : List Str) : Prop := ∀ x ∈ xs, PyData.strOk x = true
def OptsOk (os : List (Option Str)) : Prop := ∀ x, some x ∈ os → PyData.strOk x = true
theorem optsOk_nil : OptsOk [] := fun _ h => nomatch h
theorem optsOk_map {xs : List Str} (h : AllOk xs) : OptsOk (xs.map some) := fun x hx => by
  obtain ⟨y, hy, e⟩ := List.mem_map.mp hx
  exact Option.some.inj e ▸ h y hy
theorem optsOk_cons {x : Str} {os : List (Option Str)} (h : PyData.strOk x = true) (r : OptsOk os) : OptsOk (some x :: os) := fun y hy => by
  rcases List.mem_cons.mp hy with e | hy
  · exact Option.some.inj e ▸ h
  · exact r y hy
theorem optsOk_none {os : List (Option Str)} (r : OptsOk os) : OptsOk (none :: os) := fun y hy => by
  rcases List.mem_cons.mp hy with e | hy
  · cases e
  · exact r y hy
theorem optsOk_append {os ps : List (Option Str)} (h : OptsOk os) (r : OptsOk ps) : OptsOk (os ++ ps) := fun y hy => (List.mem_append.mp hy).elim (h y) (r y)
theorem slice_ok {x : Str} (h : PyData.strOk x = true) (l u : Option Int) : PyData.strOk (Txt.slice x l u) = true := by
  unfold Txt.slice
  split
  · exact h
  · unfold PyData.strOk at h ⊢
    rw [Array.all_eq_true'] at h ⊢
    intro c hc
    have hc' : c ∈ (Builtin.Str.strSliceIndices l u 1 x.length).filterMap (x.cps[·]?) := by simpa using hc
    obtain ⟨i, _, hi⟩ := List.mem_filterMap.mp hc'
    exact h c (Array.mem_of_getElem? hi)
theorem MD.cut_ok {M : MD} (ok : M.Ok) {i : Int} {x : Str} (h : M.cut i = some x) : PyData.strOk x = true := by
  unfold MD.cut at h
  split at h
  · exact Option.some.inj h ▸ slice_ok ok.tok _ _
  · cases h
theorem MD.texts_ok {M : MD} (ok : M.Ok) (is : List Int) : AllOk (M.texts is) := fun x hx => by
  obtain ⟨i, _, hi⟩ := List.mem_filterMap.mp hx
  exact MD.cut_ok ok hi

/-- the value at a place of the list of groups -/
def GVal (news : Led) (v : Value) : Option (Int × Int) → Prop
  | none => v = .none
  | some (b, e) => ∃ a tb te, v = .ref a ∧ (a, tupO [.int b tb, .int e te]) ∈ news
theorem GVal.mono {news news' : Led} {v : Value} {g : Option (Int × Int)} (h : GVal news v g) (hs : ∀ p ∈ news, p ∈ news') : GVal news' v g := by
  cases g with
  | none => exact h
  | some p => obtain ⟨a, tb, te, e, hm⟩ := h; exact ⟨a, tb, te, e, hs _ hm⟩
/-- the list of groups lies at ga -/
def GRep (news : Led) (ga : Addr) (M : MD) : Prop :=
  ∃ (gv : List Value) (gn : Nat), (ga, listOf gv.toArray gn) ∈ news ∧ gv.length = M.gs.length ∧ ∀ (i : Nat) (g : Option (Int × Int)), M.gs[i]? = some g → ∃ v : Value, gv[i]? = some v ∧ GVal news v g
theorem GRep.mono {news news' : Led} {ga : Addr} {M : MD} (h : GRep news ga M) (hs : ∀ p ∈ news, p ∈ news') : GRep news' ga M := by
  obtain ⟨gv, gn, hm, hl, hg⟩ := h
  refine ⟨gv, gn, hs _ hm, hl, fun i g e => ?_⟩
  obtain ⟨v, hv, q⟩ := hg i g e
  exact ⟨v, hv, q.mono hs⟩
/-- the names' dict lies at nd -/
def NRep (w : World) (news : Led) (nd : Addr) (M : MD) : Prop :=
  ∃ od kvs, (nd, od) ∈ news ∧ (nd == sysModules) = false ∧ od.IsDictOf (PySem.strKind PG w) kvs ∧ kvs.length = M.nms.length ∧
    ∀ (j : Nat) name is, M.nms[j]? = some (name, is) → ∃ (l : Addr) (vs : List Value) (n : Nat), kvs[j]? = some (name, .ref l) ∧ (l, listOf vs.toArray n) ∈ news ∧ IntsAre vs is
theorem NRep.mono {w : World} {news news' : Led} {nd : Addr} {M : MD} (h : NRep w news nd M) (hs : ∀ p ∈ news, p ∈ news') : NRep w news' nd M := by
  obtain ⟨od, kvs, hm, hlo, hd, hl, hg⟩ := h
  refine ⟨od, kvs, hs _ hm, hlo, hd, hl, fun i n is e => ?_⟩
  obtain ⟨l, vs, n, a, b, c⟩ := hg i n is e
  exact ⟨l, vs, n, a, hs _ b, c⟩
/-- the dict of the last patterns -/
noncomputable abbrev patO (w : World) (v : Value) (n : Nat) : Obj := dictOf [⟨tupleKeyHash (PySem.strKind PG w) [Str.ofString "", Str.ofString "last"], .ref 213, v⟩] n
/-- what the run holds now: no match, or M -/
def Held (w : World) (news : Led) (mv pv : Value) : Option MD → Prop
  | none => mv = .none ∧ pv = .none
  | some M => M.Ok ∧ ∃ (tm ga nd : Addr) (tt : Tok) (pg pgd : Addr) (es : List DictEntry) (n : Nat), mv = .ref tm ∧ (tm, tupO [.str M.text tt, .ref ga]) ∈ news ∧ GRep news ga M ∧ pv = .ref pg ∧ (pg, instObj 666 pgd) ∈ news ∧ (pgd, dictOf es n) ∈ news ∧ getL (Str.ofString "names") es = some (some (.ref nd)) ∧ NRep w news nd M
theorem Held.mono {w : World} {news news' : Led} {mv pv : Value} {c : Option MD} (h : Held w news mv pv c) (hs : ∀ p ∈ news, p ∈ news') : Held w news' mv pv c := by
  cases c with
  | none => exact h
  | some M =>
    obtain ⟨ok, tm, ga, nd, tt, pg, pgd, es, n, a, b, c, d, e, f, g, i⟩ := h
    exact ⟨ok, tm, ga, nd, tt, pg, pgd, es, n, a, hs _ b, c.mono hs, d, hs _ e, hs _ f, g, i.mono hs⟩
inductive CurRep (w : World) (news : Led) (rn : Addr) (cur : Option MD) : Prop
  | mk (rnd : Addr) (es : List DictEntry) (n : Nat) (pd : Addr) (pn : Nat) (mv pv : Value) (f0 : (rn, instObj 623 rnd) ∈ news) (f1 : (rnd, dictOf es n) ∈ news) (f2 : getL (Str.ofString "match") es = some (some mv)) (f3 : getL (Str.ofString "patterns") es = some (some (.ref pd))) (f4 : (pd == sysModules) = false) (f5 : (pd, patO w pv pn) ∈ news) (f6 : handedIn mv = true) (f7 : Held w news mv pv cur) : CurRep w news rn cur
theorem CurRep.mono {w : World} {news news' : Led} {rn : Addr} {c : Option MD} (h : CurRep w news rn c) (hs : ∀ p ∈ news, p ∈ news') : CurRep w news' rn c := by
  obtain ⟨rnd, es, n, pd, pn, mv, pv, a, b, c, d, e, f, f', g⟩ := h
  exact ⟨rnd, es, n, pd, pn, mv, pv, hs _ a, hs _ b, c, d, e, hs _ f, f', g.mono hs⟩
noncomputable def foundC : Option MD → List (Str × Str)
  | none => []
  | some M => M.found

section
variable {w : World} {A : Around} {E : Value → Shared → Prop} {s : Shared} {h₀ : Heap} {L : Addr} {m : Str → Option Value} {news : Led}
theorem lp_key {h : Heap} (X : (Mine.k.heap_1 w.params).In h) : (tupleKind (PySem.strKind PG w)).is h [Str.ofString "", Str.ofString "last"] 213 := by
  have e : ∃ o, (Mine.k.heap_1 w.params).lookup 213 = some o ∧ o.cls = .type "tuple" ∧ ∃ items n, o.data = .seq items n ∧ ItemsAre (PySem.strKind PG w) [Str.ofString "", Str.ofString "last"] items.toList := by
    refine ⟨_, by k_is, rfl, _, _, rfl, ?_⟩
    exact .cons (strKind_is _ _ _ _) (.cons (strKind_is _ _ _ _) .nil)
  obtain ⟨o, ho, hc, items, n, hd, hi⟩ := e
  exact ⟨o, items, n, X _ _ ho, hc, hd, hi⟩
theorem pat_dict {h : Heap} {pd : Addr} {pv : Value} {pn : Nat} (X : (Mine.k.heap_1 w.params).In h) (ho : h.get? pd = some (patO w pv pn)) :
    h.DictOfH (tupleKind (PySem.strKind PG w)) pd [([Str.ofString "", Str.ofString "last"], 213, pv)] := by
  refine ⟨_, _, _, ho, ⟨rfl, rfl, rfl⟩, rfl, rfl, fun x hx => ?_, by simp⟩
  rw [List.mem_singleton.mp hx]
  exact lp_key X
theorem pat_get {pd : Addr} {pv : Value} {pn : Nat} {Q : Value → Shared → Prop} (hu : A.units + 1 < cLine) (F : Fr h₀ L s.heap m) (X₀ : (Mine.k.heap_1 w.params).In h₀) (N : News h₀ L s.heap news) (hm : (pd, patO w pv pn) ∈ news) (lo : (pd == sysModules) = false)
    (h : Q pv { s with toks := s.toks + 3 }) : wpAny (model PG w) A (call (.builtin "dict.get") [.ref pd, .ref 213]) Q E s := by
  have X := X₀.keeps F.keep
  have hD := pat_dict X (N _ hm).1
  refine call_meetsIn PySem.F.slot_dict_get hD.typeIs PySem.F.entry_dict_get (PySem.F.args_dict_get_2 _ _) (meetsH_dict_get (tupleKind (PySem.strKind PG w)) pd 213 lo) ⟨hu, _, _, lp_key X, hD, ?_⟩
  have e : (atKey [([Str.ofString "", Str.ofString "last"], (213 : Addr), pv)] [Str.ofString "", Str.ofString "last"]) = some (213, pv) := by simp [atKey]
  rw [e]
  exact h
theorem pat_method {pd : Addr} {pv : Value} {pn : Nat} {pl : Sem Bool} {Q : Value × List Value → Shared → Prop} (F : Fr h₀ L s.heap m) (X₀ : (Mine.k.heap_1 w.params).In h₀) (N : News h₀ L s.heap news) (hm : (pd, patO w pv pn) ∈ news)
    (h : Q (.builtin "dict.get", [.ref pd]) s) : wpAny (model PG w) A (getMethod (.ref pd) "get" pl) Q E s := by
  have X := X₀.keeps F.keep
  have hD := pat_dict X (N _ hm).1
  exact getMethod_builtin hD.typeIs PySem.F.plainAttrs_dict PySem.F.slot_dict_get PySem.F.type_dict_get (dictOfH_noDict hD) h
end
/-- the entries of a dict of texts -/
inductive PairsAre : List (Str × Value) → List (Str × Str) → Prop
  | nil : PairsAre [] []
  | cons (n x : Str) (t : Tok) {vs ys} : PairsAre vs ys → PairsAre ((n, .str x t) :: vs) ((n, x) :: ys)
/-- what a text or None is as a value -/
def OptStr (v : Value) : Option Str → Prop
  | none => v = .none
  | some x => ∃ t, v = .str x t
inductive OptsAre : List Value → List (Option Str) → Prop
  | nil : OptsAre [] []
  | cons {v o vs os} : OptStr v o → OptsAre vs os → OptsAre (v :: vs) (o :: os)
theorem OptsAre.snoc {v : Value} {o : Option Str} (h : OptStr v o) : ∀ {vs : List Value} {os : List (Option Str)}, OptsAre vs os → OptsAre (vs ++ [v]) (os ++ [o])
  | _, _, .nil => .cons h .nil
  | _, _, .cons a b => .cons a (OptsAre.snoc h b)
theorem OptsAre.length : ∀ {vs : List Value} {os : List (Option Str)}, OptsAre vs os → vs.length = os.length
  | _, _, .nil => rfl
  | _, _, .cons _ b => by simp [OptsAre.length b]
theorem OptsAre.get : ∀ {vs : List Value} {os : List (Option Str)}, OptsAre vs os → ∀ {i : Nat} {v : Value}, vs[i]? = some v → ∃ o, os[i]? = some o ∧ OptStr v o
  | _, _, .nil, i, v, h => by simp at h
  | _, _, .cons a b, 0, v, h => by simp at h; subst h; exact ⟨_, rfl, a⟩
  | _, _, .cons a b, i + 1, v, h => by simp at h; exact OptsAre.get b h
theorem strs_push {v : Str} {t : Tok} : ∀ {vs : List Value} {xs : List Str}, StrsAre vs xs → StrsAre (vs ++ [.str v t]) (xs ++ [v])
  | _, _, .nil => .cons _ _ .nil
  | _, _, .cons y t h => .cons y t (strs_push h)
theorem strs_len : ∀ {vs : List Value} {xs : List Str}, StrsAre vs xs → vs.length = xs.length
  | _, _, .nil => rfl
  | _, _, .cons _ _ h => by simp [strs_len h]
theorem len_filterMap_take {α β : Type} (f : α → Option β) (l : List α) (j : Nat) : ((l.take j).filterMap f).length ≤ j :=
  Nat.le_trans (List.length_filterMap_le _ _) (by rw [List.length_take]; exact Nat.min_le_left _ _)
theorem filterMap_take_succ {α β : Type} (f : α → Option β) (l : List α) (j : Nat) (h : j < l.length) : (l.take (j + 1)).filterMap f = (l.take j).filterMap f ++ (f l[j]).toList := by
  rw [List.take_add_one, List.getElem?_eq_getElem h]
  simp only [Option.toList_some, List.filterMap_append, List.filterMap_cons, List.filterMap_nil]
  cases f l[j] <;> simp
/-! Two lists of texts and Nones, compared -/
noncomputable def optD : Option Str → PyData
  | none => .none
  | some x => .str x
theorem opts_carried : ∀ {vs : List Value} {os : List (Option Str)}, OptsAre vs os → CarriedAll vs (os.map optD)
  | _, _, .nil => .nil
  | _, _, .cons (o := none) h r => by have h' : _ = Value.none := h; subst h'; exact .cons .none (opts_carried r)
  | _, _, .cons (o := some x) h r => by obtain ⟨t, rfl⟩ := h; exact .cons (.str x t) (opts_carried r)
theorem strs_opts : ∀ {vs : List Value} {xs : List Str}, StrsAre vs xs → OptsAre vs (xs.map some)
  | _, _, .nil => .nil
  | _, _, .cons _ t h => .cons ⟨t, rfl⟩ (strs_opts h)
theorem optD_lay : ∀ os : List (Option Str), OptsOk os → PyData.canLayAll0 (os.map optD) = true
  | [], _ => rfl
  | none :: r, h => by simp [optD, PyData.canLayAll0, PyData.canLay0, optD_lay r fun x hx => h x (.tail _ hx)]
  | some x :: r, h => by simp [optD, PyData.canLayAll0, PyData.canLay0, optD_lay r fun x hx => h x (.tail _ hx), h x (.head _)]
theorem optD_depth : ∀ os : List (Option Str), PyData.depthAll (os.map optD) = 0
  | [] => rfl
  | o :: r => by cases o <;> simp [optD, PyData.depthAll, PyData.depth, optD_depth r]
theorem optD_shaped (os : List (Option Str)) (h : OptsOk os) : SeqAt.shaped (.list (os.map optD)) = true := by
  simp [SeqAt.shaped, PyData.canLay0, PyData.depth, optD_lay os h, optD_depth]
theorem optD_eqvAll : ∀ os ps : List (Option Str), PyData.eqvAll (os.map optD) (ps.map optD) = decide (os = ps)
  | [], [] => by simp [PyData.eqvAll]
  | [], _ :: _ => by simp [PyData.eqvAll]
  | _ :: _, [] => by simp [PyData.eqvAll]
  | a :: r, b :: t => by
    simp only [List.map_cons, PyData.eqvAll, optD_eqvAll r t]
    cases a <;> cases b <;> simp [optD, PyData.eqv]
    rename_i x y
    by_cases h : x = y <;> simp [h]
theorem optD_eqv (os ps : List (Option Str)) : PyData.eqv (.list (os.map optD)) (.list (ps.map optD)) = decide (os = ps) := by
  simp only [PyData.eqv]; exact optD_eqvAll os ps
section
variable {prog : Program} {w : World} {A : Around} {E : Value → Shared → Prop} {s : Shared} {h₀ : Heap} {L : Addr} {news : Led}
theorem ne_opts {a b : Addr} {xs ys : List Value} {n k : Nat} {os ps : List (Option Str)} {Q : Value → Shared → Prop} (N : News h₀ L s.heap news) (ha : (a, listOf xs.toArray n) ∈ news) (hb : (b, listOf ys.toArray k) ∈ news)
    (hi : OptsAre xs os) (hj : OptsAre ys ps) (ho : OptsOk os) (hp : OptsOk ps) (hu : A.units + 64 < cLine) (h : Q (.bool (!decide (os = ps))) s) : wpAny (model prog w) A (compareOp .NotEq (.ref a) (.ref b)) Q E s :=
  ne_dataH (reads_newData (mem_list N ha) (opts_carried hi)) (reads_newData (mem_list N hb) (opts_carried hj)) (optD_shaped _ ho) (optD_shaped _ hp) hu (by rw [optD_eqv]; exact h)
end
theorem PairsAre.keys : ∀ {kvs : List (Str × Value)} {ps : List (Str × Str)}, PairsAre kvs ps → kvs.map (·.1) = ps.map (·.1)
  | _, _, .nil => rfl
  | _, _, .cons n x t h => by simp [PairsAre.keys h]
theorem PairsAre.len {kvs : List (Str × Value)} {ps : List (Str × Str)} (h : PairsAre kvs ps) : kvs.length = ps.length := by
  have := congrArg List.length h.keys
  simpa using this
theorem PairsAre.snoc {n x : Str} {t : Tok} : ∀ {kvs : List (Str × Value)} {ps : List (Str × Str)}, PairsAre kvs ps → PairsAre (kvs ++ [(n, .str x t)]) (ps ++ [(n, x)])
  | _, _, .nil => .cons _ _ _ .nil
  | _, _, .cons a b c h => .cons a b c (PairsAre.snoc h)
theorem stored_new {kvs : List (Str × Value)} {k : Str} {v : Value} (h : k ∉ kvs.map (·.1)) : stored kvs k v = kvs ++ [(k, v)] := by
  unfold stored
  rw [if_neg]
  intro e
  obtain ⟨p, hp, q⟩ := List.any_eq_true.mp e
  exact h (List.mem_map.mpr ⟨p, hp, of_decide_eq_true q⟩)
/-- the name at place i is none of the names found among the first i -/
theorem found_fresh {M : MD} (ok : M.Ok) {i : Nat} {k : Str} {is : List Int} (h : M.nms[i]? = some (k, is)) :
    k ∉ ((M.nms.take i).filterMap fun p => (M.texts p.2).head?.map fun t => (p.1, t)).map (·.1) := by
  intro hm
  obtain ⟨q, hq, rfl⟩ := List.mem_map.mp hm
  obtain ⟨p, hp, e⟩ := List.mem_filterMap.mp hq
  have hk : p.1 = q.1 := by
    cases ht : (M.texts p.2).head? with
    | none => rw [ht] at e; cases e
    | some t => rw [ht] at e; simp only [Option.map_some, Option.some.injEq] at e; rw [← e]
  obtain ⟨j, hj, hjp⟩ := List.mem_iff_getElem.mp hp
  rw [List.length_take] at hj
  rw [List.getElem_take] at hjp
  have hi : i < M.nms.length := (List.getElem?_eq_some_iff.mp h).1
  have hn := ok.nodup
  have hl : (M.nms.map (·.1)).length = M.nms.length := List.length_map ..
  have := List.pairwise_iff_getElem.mp hn j i (by omega) (by omega) (by omega)
  apply this
  rw [List.getElem_map, List.getElem_map, hjp, hk]
  have := (List.getElem?_eq_some_iff.mp h).2
  rw [this]
/-! Many ∃ and ∧ at one step: a proof term that says each type once -/
theorem ex1.{u1} {α1 : Sort u1} {P : α1 → Prop} {C : Prop} (h : ∃ a1, P a1) (k : ∀ a1, P a1 → C) : C := h.elim fun a1 h => k a1 h
theorem exI1.{u1} {α1 : Sort u1} {P : α1 → Prop} {a1 : α1} (h : P a1) : ∃ a1, P a1 := ⟨a1, h⟩
theorem ex2.{u1, u2} {α1 : Sort u1} {α2 : Sort u2} {P : α1 → α2 → Prop} {C : Prop} (h : ∃ a1 a2, P a1 a2) (k : ∀ a1 a2, P a1 a2 → C) : C := h.elim fun a1 h => h.elim fun a2 h => k a1 a2 h
theorem exI2.{u1, u2} {α1 : Sort u1} {α2 : Sort u2} {P : α1 → α2 → Prop} {a1 : α1} {a2 : α2} (h : P a1 a2) : ∃ a1 a2, P a1 a2 := ⟨a1, a2, h⟩
theorem ex3.{u1, u2, u3} {α1 : Sort u1} {α2 : Sort u2} {α3 : Sort u3} {P : α1 → α2 → α3 → Prop} {C : Prop} (h : ∃ a1 a2 a3, P a1 a2 a3) (k : ∀ a1 a2 a3, P a1 a2 a3 → C) : C := h.elim fun a1 h => h.elim fun a2 h => h.elim fun a3 h => k a1 a2 a3 h
theorem exI3.{u1, u2, u3} {α1 : Sort u1} {α2 : Sort u2} {α3 : Sort u3} {P : α1 → α2 → α3 → Prop} {a1 : α1} {a2 : α2} {a3 : α3} (h : P a1 a2 a3) : ∃ a1 a2 a3, P a1 a2 a3 := ⟨a1, a2, a3, h⟩
theorem ex4.{u1, u2, u3, u4} {α1 : Sort u1} {α2 : Sort u2} {α3 : Sort u3} {α4 : Sort u4} {P : α1 → α2 → α3 → α4 → Prop} {C : Prop} (h : ∃ a1 a2 a3 a4, P a1 a2 a3 a4) (k : ∀ a1 a2 a3 a4, P a1 a2 a3 a4 → C) : C := h.elim fun a1 h => h.elim fun a2 h => h.elim fun a3 h => h.elim fun a4 h => k a1 a2 a3 a4 h
theorem exI4.{u1, u2, u3, u4} {α1 : Sort u1} {α2 : Sort u2} {α3 : Sort u3} {α4 : Sort u4} {P : α1 → α2 → α3 → α4 → Prop} {a1 : α1} {a2 : α2} {a3 : α3} {a4 : α4} (h : P a1 a2 a3 a4) : ∃ a1 a2 a3 a4, P a1 a2 a3 a4 := ⟨a1, a2, a3, a4, h⟩
theorem ex5.{u1, u2, u3, u4, u5} {α1 : Sort u1} {α2 : Sort u2} {α3 : Sort u3} {α4 : Sort u4} {α5 : Sort u5} {P : α1 → α2 → α3 → α4 → α5 → Prop} {C : Prop} (h : ∃ a1 a2 a3 a4 a5, P a1 a2 a3 a4 a5) (k : ∀ a1 a2 a3 a4 a5, P a1 a2 a3 a4 a5 → C) : C := h.elim fun a1 h => h.elim fun a2 h => h.elim fun a3 h => h.elim fun a4 h => h.elim fun a5 h => k a1 a2 a3 a4 a5 h
theorem exI5.{u1, u2, u3, u4, u5} {α1 : Sort u1} {α2 : Sort u2} {α3 : Sort u3} {α4 : Sort u4} {α5 : Sort u5} {P : α1 → α2 → α3 → α4 → α5 → Prop} {a1 : α1} {a2 : α2} {a3 : α3} {a4 : α4} {a5 : α5} (h : P a1 a2 a3 a4 a5) : ∃ a1 a2 a3 a4 a5, P a1 a2 a3 a4 a5 := ⟨a1, a2, a3, a4, a5, h⟩
theorem ex6.{u1, u2, u3, u4, u5, u6} {α1 : Sort u1} {α2 : Sort u2} {α3 : Sort u3} {α4 : Sort u4} {α5 : Sort u5} {α6 : Sort u6} {P : α1 → α2 → α3 → α4 → α5 → α6 → Prop} {C : Prop} (h : ∃ a1 a2 a3 a4 a5 a6, P a1 a2 a3 a4 a5 a6) (k : ∀ a1 a2 a3 a4 a5 a6, P a1 a2 a3 a4 a5 a6 → C) : C := h.elim fun a1 h => h.elim fun a2 h => h.elim fun a3 h => h.elim fun a4 h => h.elim fun a5 h => h.elim fun a6 h => k a1 a2 a3 a4 a5 a6 h
theorem exI6.{u1, u2, u3, u4, u5, u6} {α1 : Sort u1} {α2 : Sort u2} {α3 : Sort u3} {α4 : Sort u4} {α5 : Sort u5} {α6 : Sort u6} {P : α1 → α2 → α3 → α4 → α5 → α6 → Prop} {a1 : α1} {a2 : α2} {a3 : α3} {a4 : α4} {a5 : α5} {a6 : α6} (h : P a1 a2 a3 a4 a5 a6) : ∃ a1 a2 a3 a4 a5 a6, P a1 a2 a3 a4 a5 a6 := ⟨a1, a2, a3, a4, a5, a6, h⟩
theorem ex7.{u1, u2, u3, u4, u5, u6, u7} {α1 : Sort u1} {α2 : Sort u2} {α3 : Sort u3} {α4 : Sort u4} {α5 : Sort u5} {α6 : Sort u6} {α7 : Sort u7} {P : α1 → α2 → α3 → α4 → α5 → α6 → α7 → Prop} {C : Prop} (h : ∃ a1 a2 a3 a4 a5 a6 a7, P a1 a2 a3 a4 a5 a6 a7) (k : ∀ a1 a2 a3 a4 a5 a6 a7, P a1 a2 a3 a4 a5 a6 a7 → C) : C := h.elim fun a1 h => h.elim fun a2 h => h.elim fun a3 h => h.elim fun a4 h => h.elim fun a5 h => h.elim fun a6 h => h.elim fun a7 h => k a1 a2 a3 a4 a5 a6 a7 h
theorem exI7.{u1, u2, u3, u4, u5, u6, u7} {α1 : Sort u1} {α2 : Sort u2} {α3 : Sort u3} {α4 : Sort u4} {α5 : Sort u5} {α6 : Sort u6} {α7 : Sort u7} {P : α1 → α2 → α3 → α4 → α5 → α6 → α7 → Prop} {a1 : α1} {a2 : α2} {a3 : α3} {a4 : α4} {a5 : α5} {a6 : α6} {a7 : α7} (h : P a1 a2 a3 a4 a5 a6 a7) : ∃ a1 a2 a3 a4 a5 a6 a7, P a1 a2 a3 a4 a5 a6 a7 := ⟨a1, a2, a3, a4, a5, a6, a7, h⟩
theorem ex8.{u1, u2, u3, u4, u5, u6, u7, u8} {α1 : Sort u1} {α2 : Sort u2} {α3 : Sort u3} {α4 : Sort u4} {α5 : Sort u5} {α6 : Sort u6} {α7 : Sort u7} {α8 : Sort u8} {P : α1 → α2 → α3 → α4 → α5 → α6 → α7 → α8 → Prop} {C : Prop} (h : ∃ a1 a2 a3 a4 a5 a6 a7 a8, P a1 a2 a3 a4 a5 a6 a7 a8) (k : ∀ a1 a2 a3 a4 a5 a6 a7 a8, P a1 a2 a3 a4 a5 a6 a7 a8 → C) : C := h.elim fun a1 h => h.elim fun a2 h => h.elim fun a3 h => h.elim fun a4 h => h.elim fun a5 h => h.elim fun a6 h => h.elim fun a7 h => h.elim fun a8 h => k a1 a2 a3 a4 a5 a6 a7 a8 h
theorem exI8.{u1, u2, u3, u4, u5, u6, u7, u8} {α1 : Sort u1} {α2 : Sort u2} {α3 : Sort u3} {α4 : Sort u4} {α5 : Sort u5} {α6 : Sort u6} {α7 : Sort u7} {α8 : Sort u8} {P : α1 → α2 → α3 → α4 → α5 → α6 → α7 → α8 → Prop} {a1 : α1} {a2 : α2} {a3 : α3} {a4 : α4} {a5 : α5} {a6 : α6} {a7 : α7} {a8 : α8} (h : P a1 a2 a3 a4 a5 a6 a7 a8) : ∃ a1 a2 a3 a4 a5 a6 a7 a8, P a1 a2 a3 a4 a5 a6 a7 a8 := ⟨a1, a2, a3, a4, a5, a6, a7, a8, h⟩
theorem ex9.{u1, u2, u3, u4, u5, u6, u7, u8, u9} {α1 : Sort u1} {α2 : Sort u2} {α3 : Sort u3} {α4 : Sort u4} {α5 : Sort u5} {α6 : Sort u6} {α7 : Sort u7} {α8 : Sort u8} {α9 : Sort u9} {P : α1 → α2 → α3 → α4 → α5 → α6 → α7 → α8 → α9 → Prop} {C : Prop} (h : ∃ a1 a2 a3 a4 a5 a6 a7 a8 a9, P a1 a2 a3 a4 a5 a6 a7 a8 a9) (k : ∀ a1 a2 a3 a4 a5 a6 a7 a8 a9, P a1 a2 a3 a4 a5 a6 a7 a8 a9 → C) : C := h.elim fun a1 h => h.elim fun a2 h => h.elim fun a3 h => h.elim fun a4 h => h.elim fun a5 h => h.elim fun a6 h => h.elim fun a7 h => h.elim fun a8 h => h.elim fun a9 h => k a1 a2 a3 a4 a5 a6 a7 a8 a9 h
theorem exI9.{u1, u2, u3, u4, u5, u6, u7, u8, u9} {α1 : Sort u1} {α2 : Sort u2} {α3 : Sort u3} {α4 : Sort u4} {α5 : Sort u5} {α6 : Sort u6} {α7 : Sort u7} {α8 : Sort u8} {α9 : Sort u9} {P : α1 → α2 → α3 → α4 → α5 → α6 → α7 → α8 → α9 → Prop} {a1 : α1} {a2 : α2} {a3 : α3} {a4 : α4} {a5 : α5} {a6 : α6} {a7 : α7} {a8 : α8} {a9 : α9} (h : P a1 a2 a3 a4 a5 a6 a7 a8 a9) : ∃ a1 a2 a3 a4 a5 a6 a7 a8 a9, P a1 a2 a3 a4 a5 a6 a7 a8 a9 := ⟨a1, a2, a3, a4, a5, a6, a7, a8, a9, h⟩
theorem ex10.{u1, u2, u3, u4, u5, u6, u7, u8, u9, u10} {α1 : Sort u1} {α2 : Sort u2} {α3 : Sort u3} {α4 : Sort u4} {α5 : Sort u5} {α6 : Sort u6} {α7 : Sort u7} {α8 : Sort u8} {α9 : Sort u9} {α10 : Sort u10} {P : α1 → α2 → α3 → α4 → α5 → α6 → α7 → α8 → α9 → α10 → Prop} {C : Prop} (h : ∃ a1 a2 a3 a4 a5 a6 a7 a8 a9 a10, P a1 a2 a3 a4 a5 a6 a7 a8 a9 a10) (k : ∀ a1 a2 a3 a4 a5 a6 a7 a8 a9 a10, P a1 a2 a3 a4 a5 a6 a7 a8 a9 a10 → C) : C := h.elim fun a1 h => h.elim fun a2 h => h.elim fun a3 h => h.elim fun a4 h => h.elim fun a5 h => h.elim fun a6 h => h.elim fun a7 h => h.elim fun a8 h => h.elim fun a9 h => h.elim fun a10 h => k a1 a2 a3 a4 a5 a6 a7 a8 a9 a10 h
theorem exI10.{u1, u2, u3, u4, u5, u6, u7, u8, u9, u10} {α1 : Sort u1} {α2 : Sort u2} {α3 : Sort u3} {α4 : Sort u4} {α5 : Sort u5} {α6 : Sort u6} {α7 : Sort u7} {α8 : Sort u8} {α9 : Sort u9} {α10 : Sort u10} {P : α1 → α2 → α3 → α4 → α5 → α6 → α7 → α8 → α9 → α10 → Prop} {a1 : α1} {a2 : α2} {a3 : α3} {a4 : α4} {a5 : α5} {a6 : α6} {a7 : α7} {a8 : α8} {a9 : α9} {a10 : α10} (h : P a1 a2 a3 a4 a5 a6 a7 a8 a9 a10) : ∃ a1 a2 a3 a4 a5 a6 a7 a8 a9 a10, P a1 a2 a3 a4 a5 a6 a7 a8 a9 a10 := ⟨a1, a2, a3, a4, a5, a6, a7, a8, a9, a10, h⟩
theorem ex11.{u1, u2, u3, u4, u5, u6, u7, u8, u9, u10, u11} {α1 : Sort u1} {α2 : Sort u2} {α3 : Sort u3} {α4 : Sort u4} {α5 : Sort u5} {α6 : Sort u6} {α7 : Sort u7} {α8 : Sort u8} {α9 : Sort u9} {α10 : Sort u10} {α11 : Sort u11} {P : α1 → α2 → α3 → α4 → α5 → α6 → α7 → α8 → α9 → α10 → α11 → Prop} {C : Prop} (h : ∃ a1 a2 a3 a4 a5 a6 a7 a8 a9 a10 a11, P a1 a2 a3 a4 a5 a6 a7 a8 a9 a10 a11) (k : ∀ a1 a2 a3 a4 a5 a6 a7 a8 a9 a10 a11, P a1 a2 a3 a4 a5 a6 a7 a8 a9 a10 a11 → C) : C := h.elim fun a1 h => h.elim fun a2 h => h.elim fun a3 h => h.elim fun a4 h => h.elim fun a5 h => h.elim fun a6 h => h.elim fun a7 h => h.elim fun a8 h => h.elim fun a9 h => h.elim fun a10 h => h.elim fun a11 h => k a1 a2 a3 a4 a5 a6 a7 a8 a9 a10 a11 h
theorem exI11.{u1, u2, u3, u4, u5, u6, u7, u8, u9, u10, u11} {α1 : Sort u1} {α2 : Sort u2} {α3 : Sort u3} {α4 : Sort u4} {α5 : Sort u5} {α6 : Sort u6} {α7 : Sort u7} {α8 : Sort u8} {α9 : Sort u9} {α10 : Sort u10} {α11 : Sort u11} {P : α1 → α2 → α3 → α4 → α5 → α6 → α7 → α8 → α9 → α10 → α11 → Prop} {a1 : α1} {a2 : α2} {a3 : α3} {a4 : α4} {a5 : α5} {a6 : α6} {a7 : α7} {a8 : α8} {a9 : α9} {a10 : α10} {a11 : α11} (h : P a1 a2 a3 a4 a5 a6 a7 a8 a9 a10 a11) : ∃ a1 a2 a3 a4 a5 a6 a7 a8 a9 a10 a11, P a1 a2 a3 a4 a5 a6 a7 a8 a9 a10 a11 := ⟨a1, a2, a3, a4, a5, a6, a7, a8, a9, a10, a11, h⟩
theorem ex12.{u1, u2, u3, u4, u5, u6, u7, u8, u9, u10, u11, u12} {α1 : Sort u1} {α2 : Sort u2} {α3 : Sort u3} {α4 : Sort u4} {α5 : Sort u5} {α6 : Sort u6} {α7 : Sort u7} {α8 : Sort u8} {α9 : Sort u9} {α10 : Sort u10} {α11 : Sort u11} {α12 : Sort u12} {P : α1 → α2 → α3 → α4 → α5 → α6 → α7 → α8 → α9 → α10 → α11 → α12 → Prop} {C : Prop} (h : ∃ a1 a2 a3 a4 a5 a6 a7 a8 a9 a10 a11 a12, P a1 a2 a3 a4 a5 a6 a7 a8 a9 a10 a11 a12) (k : ∀ a1 a2 a3 a4 a5 a6 a7 a8 a9 a10 a11 a12, P a1 a2 a3 a4 a5 a6 a7 a8 a9 a10 a11 a12 → C) : C := h.elim fun a1 h => h.elim fun a2 h => h.elim fun a3 h => h.elim fun a4 h => h.elim fun a5 h => h.elim fun a6 h => h.elim fun a7 h => h.elim fun a8 h => h.elim fun a9 h => h.elim fun a10 h => h.elim fun a11 h => h.elim fun a12 h => k a1 a2 a3 a4 a5 a6 a7 a8 a9 a10 a11 a12 h
theorem exI12.{u1, u2, u3, u4, u5, u6, u7, u8, u9, u10, u11, u12} {α1 : Sort u1} {α2 : Sort u2} {α3 : Sort u3} {α4 : Sort u4} {α5 : Sort u5} {α6 : Sort u6} {α7 : Sort u7} {α8 : Sort u8} {α9 : Sort u9} {α10 : Sort u10} {α11 : Sort u11} {α12 : Sort u12} {P : α1 → α2 → α3 → α4 → α5 → α6 → α7 → α8 → α9 → α10 → α11 → α12 → Prop} {a1 : α1} {a2 : α2} {a3 : α3} {a4 : α4} {a5 : α5} {a6 : α6} {a7 : α7} {a8 : α8} {a9 : α9} {a10 : α10} {a11 : α11} {a12 : α12} (h : P a1 a2 a3 a4 a5 a6 a7 a8 a9 a10 a11 a12) : ∃ a1 a2 a3 a4 a5 a6 a7 a8 a9 a10 a11 a12, P a1 a2 a3 a4 a5 a6 a7 a8 a9 a10 a11 a12 := ⟨a1, a2, a3, a4, a5, a6, a7, a8, a9, a10, a11, a12, h⟩
theorem ex13.{u1, u2, u3, u4, u5, u6, u7, u8, u9, u10, u11, u12, u13} {α1 : Sort u1} {α2 : Sort u2} {α3 : Sort u3} {α4 : Sort u4} {α5 : Sort u5} {α6 : Sort u6} {α7 : Sort u7} {α8 : Sort u8} {α9 : Sort u9} {α10 : Sort u10} {α11 : Sort u11} {α12 : Sort u12} {α13 : Sort u13} {P : α1 → α2 → α3 → α4 → α5 → α6 → α7 → α8 → α9 → α10 → α11 → α12 → α13 → Prop} {C : Prop} (h : ∃ a1 a2 a3 a4 a5 a6 a7 a8 a9 a10 a11 a12 a13, P a1 a2 a3 a4 a5 a6 a7 a8 a9 a10 a11 a12 a13) (k : ∀ a1 a2 a3 a4 a5 a6 a7 a8 a9 a10 a11 a12 a13, P a1 a2 a3 a4 a5 a6 a7 a8 a9 a10 a11 a12 a13 → C) : C := h.elim fun a1 h => h.elim fun a2 h => h.elim fun a3 h => h.elim fun a4 h => h.elim fun a5 h => h.elim fun a6 h => h.elim fun a7 h => h.elim fun a8 h => h.elim fun a9 h => h.elim fun a10 h => h.elim fun a11 h => h.elim fun a12 h => h.elim fun a13 h => k a1 a2 a3 a4 a5 a6 a7 a8 a9 a10 a11 a12 a13 h
theorem exI13.{u1, u2, u3, u4, u5, u6, u7, u8, u9, u10, u11, u12, u13} {α1 : Sort u1} {α2 : Sort u2} {α3 : Sort u3} {α4 : Sort u4} {α5 : Sort u5} {α6 : Sort u6} {α7 : Sort u7} {α8 : Sort u8} {α9 : Sort u9} {α10 : Sort u10} {α11 : Sort u11} {α12 : Sort u12} {α13 : Sort u13} {P : α1 → α2 → α3 → α4 → α5 → α6 → α7 → α8 → α9 → α10 → α11 → α12 → α13 → Prop} {a1 : α1} {a2 : α2} {a3 : α3} {a4 : α4} {a5 : α5} {a6 : α6} {a7 : α7} {a8 : α8} {a9 : α9} {a10 : α10} {a11 : α11} {a12 : α12} {a13 : α13} (h : P a1 a2 a3 a4 a5 a6 a7 a8 a9 a10 a11 a12 a13) : ∃ a1 a2 a3 a4 a5 a6 a7 a8 a9 a10 a11 a12 a13, P a1 a2 a3 a4 a5 a6 a7 a8 a9 a10 a11 a12 a13 := ⟨a1, a2, a3, a4, a5, a6, a7, a8, a9, a10, a11, a12, a13, h⟩
theorem ex14.{u1, u2, u3, u4, u5, u6, u7, u8, u9, u10, u11, u12, u13, u14} {α1 : Sort u1} {α2 : Sort u2} {α3 : Sort u3} {α4 : Sort u4} {α5 : Sort u5} {α6 : Sort u6} {α7 : Sort u7} {α8 : Sort u8} {α9 : Sort u9} {α10 : Sort u10} {α11 : Sort u11} {α12 : Sort u12} {α13 : Sort u13} {α14 : Sort u14} {P : α1 → α2 → α3 → α4 → α5 → α6 → α7 → α8 → α9 → α10 → α11 → α12 → α13 → α14 → Prop} {C : Prop} (h : ∃ a1 a2 a3 a4 a5 a6 a7 a8 a9 a10 a11 a12 a13 a14, P a1 a2 a3 a4 a5 a6 a7 a8 a9 a10 a11 a12 a13 a14) (k : ∀ a1 a2 a3 a4 a5 a6 a7 a8 a9 a10 a11 a12 a13 a14, P a1 a2 a3 a4 a5 a6 a7 a8 a9 a10 a11 a12 a13 a14 → C) : C := h.elim fun a1 h => h.elim fun a2 h => h.elim fun a3 h => h.elim fun a4 h => h.elim fun a5 h => h.elim fun a6 h => h.elim fun a7 h => h.elim fun a8 h => h.elim fun a9 h => h.elim fun a10 h => h.elim fun a11 h => h.elim fun a12 h => h.elim fun a13 h => h.elim fun a14 h => k a1 a2 a3 a4 a5 a6 a7 a8 a9 a10 a11 a12 a13 a14 h
theorem exI14.{u1, u2, u3, u4, u5, u6, u7, u8, u9, u10, u11, u12, u13, u14} {α1 : Sort u1} {α2 : Sort u2} {α3 : Sort u3} {α4 : Sort u4} {α5 : Sort u5} {α6 : Sort u6} {α7 : Sort u7} {α8 : Sort u8} {α9 : Sort u9} {α10 : Sort u10} {α11 : Sort u11} {α12 : Sort u12} {α13 : Sort u13} {α14 : Sort u14} {P : α1 → α2 → α3 → α4 → α5 → α6 → α7 → α8 → α9 → α10 → α11 → α12 → α13 → α14 → Prop} {a1 : α1} {a2 : α2} {a3 : α3} {a4 : α4} {a5 : α5} {a6 : α6} {a7 : α7} {a8 : α8} {a9 : α9} {a10 : α10} {a11 : α11} {a12 : α12} {a13 : α13} {a14 : α14} (h : P a1 a2 a3 a4 a5 a6 a7 a8 a9 a10 a11 a12 a13 a14) : ∃ a1 a2 a3 a4 a5 a6 a7 a8 a9 a10 a11 a12 a13 a14, P a1 a2 a3 a4 a5 a6 a7 a8 a9 a10 a11 a12 a13 a14 := ⟨a1, a2, a3, a4, a5, a6, a7, a8, a9, a10, a11, a12, a13, a14, h⟩
theorem ex15.{u1, u2, u3, u4, u5, u6, u7, u8, u9, u10, u11, u12, u13, u14, u15} {α1 : Sort u1} {α2 : Sort u2} {α3 : Sort u3} {α4 : Sort u4} {α5 : Sort u5} {α6 : Sort u6} {α7 : Sort u7} {α8 : Sort u8} {α9 : Sort u9} {α10 : Sort u10} {α11 : Sort u11} {α12 : Sort u12} {α13 : Sort u13} {α14 : Sort u14} {α15 : Sort u15} {P : α1 → α2 → α3 → α4 → α5 → α6 → α7 → α8 → α9 → α10 → α11 → α12 → α13 → α14 → α15 → Prop} {C : Prop} (h : ∃ a1 a2 a3 a4 a5 a6 a7 a8 a9 a10 a11 a12 a13 a14 a15, P a1 a2 a3 a4 a5 a6 a7 a8 a9 a10 a11 a12 a13 a14 a15) (k : ∀ a1 a2 a3 a4 a5 a6 a7 a8 a9 a10 a11 a12 a13 a14 a15, P a1 a2 a3 a4 a5 a6 a7 a8 a9 a10 a11 a12 a13 a14 a15 → C) : C := h.elim fun a1 h => h.elim fun a2 h => h.elim fun a3 h => h.elim fun a4 h => h.elim fun a5 h => h.elim fun a6 h => h.elim fun a7 h => h.elim fun a8 h => h.elim fun a9 h => h.elim fun a10 h => h.elim fun a11 h => h.elim fun a12 h => h.elim fun a13 h => h.elim fun a14 h => h.elim fun a15 h => k a1 a2 a3 a4 a5 a6 a7 a8 a9 a10 a11 a12 a13 a14 a15 h
theorem exI15.{u1, u2, u3, u4, u5, u6, u7, u8, u9, u10, u11, u12, u13, u14, u15} {α1 : Sort u1} {α2 : Sort u2} {α3 : Sort u3} {α4 : Sort u4} {α5 : Sort u5} {α6 : Sort u6} {α7 : Sort u7} {α8 : Sort u8} {α9 : Sort u9} {α10 : Sort u10} {α11 : Sort u11} {α12 : Sort u12} {α13 : Sort u13} {α14 : Sort u14} {α15 : Sort u15} {P : α1 → α2 → α3 → α4 → α5 → α6 → α7 → α8 → α9 → α10 → α11 → α12 → α13 → α14 → α15 → Prop} {a1 : α1} {a2 : α2} {a3 : α3} {a4 : α4} {a5 : α5} {a6 : α6} {a7 : α7} {a8 : α8} {a9 : α9} {a10 : α10} {a11 : α11} {a12 : α12} {a13 : α13} {a14 : α14} {a15 : α15} (h : P a1 a2 a3 a4 a5 a6 a7 a8 a9 a10 a11 a12 a13 a14 a15) : ∃ a1 a2 a3 a4 a5 a6 a7 a8 a9 a10 a11 a12 a13 a14 a15, P a1 a2 a3 a4 a5 a6 a7 a8 a9 a10 a11 a12 a13 a14 a15 := ⟨a1, a2, a3, a4, a5, a6, a7, a8, a9, a10, a11, a12, a13, a14, a15, h⟩
theorem ex16.{u1, u2, u3, u4, u5, u6, u7, u8, u9, u10, u11, u12, u13, u14, u15, u16} {α1 : Sort u1} {α2 : Sort u2} {α3 : Sort u3} {α4 : Sort u4} {α5 : Sort u5} {α6 : Sort u6} {α7 : Sort u7} {α8 : Sort u8} {α9 : Sort u9} {α10 : Sort u10} {α11 : Sort u11} {α12 : Sort u12} {α13 : Sort u13} {α14 : Sort u14} {α15 : Sort u15} {α16 : Sort u16} {P : α1 → α2 → α3 → α4 → α5 → α6 → α7 → α8 → α9 → α10 → α11 → α12 → α13 → α14 → α15 → α16 → Prop} {C : Prop} (h : ∃ a1 a2 a3 a4 a5 a6 a7 a8 a9 a10 a11 a12 a13 a14 a15 a16, P a1 a2 a3 a4 a5 a6 a7 a8 a9 a10 a11 a12 a13 a14 a15 a16) (k : ∀ a1 a2 a3 a4 a5 a6 a7 a8 a9 a10 a11 a12 a13 a14 a15 a16, P a1 a2 a3 a4 a5 a6 a7 a8 a9 a10 a11 a12 a13 a14 a15 a16 → C) : C := h.elim fun a1 h => h.elim fun a2 h => h.elim fun a3 h => h.elim fun a4 h => h.elim fun a5 h => h.elim fun a6 h => h.elim fun a7 h => h.elim fun a8 h => h.elim fun a9 h => h.elim fun a10 h => h.elim fun a11 h => h.elim fun a12 h => h.elim fun a13 h => h.elim fun a14 h => h.elim fun a15 h => h.elim fun a16 h => k a1 a2 a3 a4 a5 a6 a7 a8 a9 a10 a11 a12 a13 a14 a15 a16 h
theorem exI16.{u1, u2, u3, u4, u5, u6, u7, u8, u9, u10, u11, u12, u13, u14, u15, u16} {α1 : Sort u1} {α2 : Sort u2} {α3 : Sort u3} {α4 : Sort u4} {α5 : Sort u5} {α6 : Sort u6} {α7 : Sort u7} {α8 : Sort u8} {α9 : Sort u9} {α10 : Sort u10} {α11 : Sort u11} {α12 : Sort u12} {α13 : Sort u13} {α14 : Sort u14} {α15 : Sort u15} {α16 : Sort u16} {P : α1 → α2 → α3 → α4 → α5 → α6 → α7 → α8 → α9 → α10 → α11 → α12 → α13 → α14 → α15 → α16 → Prop} {a1 : α1} {a2 : α2} {a3 : α3} {a4 : α4} {a5 : α5} {a6 : α6} {a7 : α7} {a8 : α8} {a9 : α9} {a10 : α10} {a11 : α11} {a12 : α12} {a13 : α13} {a14 : α14} {a15 : α15} {a16 : α16} (h : P a1 a2 a3 a4 a5 a6 a7 a8 a9 a10 a11 a12 a13 a14 a15 a16) : ∃ a1 a2 a3 a4 a5 a6 a7 a8 a9 a10 a11 a12 a13 a14 a15 a16, P a1 a2 a3 a4 a5 a6 a7 a8 a9 a10 a11 a12 a13 a14 a15 a16 := ⟨a1, a2, a3, a4, a5, a6, a7, a8, a9, a10, a11, a12, a13, a14, a15, a16, h⟩
theorem ex17.{u1, u2, u3, u4, u5, u6, u7, u8, u9, u10, u11, u12, u13, u14, u15, u16, u17} {α1 : Sort u1} {α2 : Sort u2} {α3 : Sort u3} {α4 : Sort u4} {α5 : Sort u5} {α6 : Sort u6} {α7 : Sort u7} {α8 : Sort u8} {α9 : Sort u9} {α10 : Sort u10} {α11 : Sort u11} {α12 : Sort u12} {α13 : Sort u13} {α14 : Sort u14} {α15 : Sort u15} {α16 : Sort u16} {α17 : Sort u17} {P : α1 → α2 → α3 → α4 → α5 → α6 → α7 → α8 → α9 → α10 → α11 → α12 → α13 → α14 → α15 → α16 → α17 → Prop} {C : Prop} (h : ∃ a1 a2 a3 a4 a5 a6 a7 a8 a9 a10 a11 a12 a13 a14 a15 a16 a17, P a1 a2 a3 a4 a5 a6 a7 a8 a9 a10 a11 a12 a13 a14 a15 a16 a17) (k : ∀ a1 a2 a3 a4 a5 a6 a7 a8 a9 a10 a11 a12 a13 a14 a15 a16 a17, P a1 a2 a3 a4 a5 a6 a7 a8 a9 a10 a11 a12 a13 a14 a15 a16 a17 → C) : C := h.elim fun a1 h => h.elim fun a2 h => h.elim fun a3 h => h.elim fun a4 h => h.elim fun a5 h => h.elim fun a6 h => h.elim fun a7 h => h.elim fun a8 h => h.elim fun a9 h => h.elim fun a10 h => h.elim fun a11 h => h.elim fun a12 h => h.elim fun a13 h => h.elim fun a14 h => h.elim fun a15 h => h.elim fun a16 h => h.elim fun a17 h => k a1 a2 a3 a4 a5 a6 a7 a8 a9 a10 a11 a12 a13 a14 a15 a16 a17 h
theorem exI17.{u1, u2, u3, u4, u5, u6, u7, u8, u9, u10, u11, u12, u13, u14, u15, u16, u17} {α1 : Sort u1} {α2 : Sort u2} {α3 : Sort u3} {α4 : Sort u4} {α5 : Sort u5} {α6 : Sort u6} {α7 : Sort u7} {α8 : Sort u8} {α9 : Sort u9} {α10 : Sort u10} {α11 : Sort u11} {α12 : Sort u12} {α13 : Sort u13} {α14 : Sort u14} {α15 : Sort u15} {α16 : Sort u16} {α17 : Sort u17} {P : α1 → α2 → α3 → α4 → α5 → α6 → α7 → α8 → α9 → α10 → α11 → α12 → α13 → α14 → α15 → α16 → α17 → Prop} {a1 : α1} {a2 : α2} {a3 : α3} {a4 : α4} {a5 : α5} {a6 : α6} {a7 : α7} {a8 : α8} {a9 : α9} {a10 : α10} {a11 : α11} {a12 : α12} {a13 : α13} {a14 : α14} {a15 : α15} {a16 : α16} {a17 : α17} (h : P a1 a2 a3 a4 a5 a6 a7 a8 a9 a10 a11 a12 a13 a14 a15 a16 a17) : ∃ a1 a2 a3 a4 a5 a6 a7 a8 a9 a10 a11 a12 a13 a14 a15 a16 a17, P a1 a2 a3 a4 a5 a6 a7 a8 a9 a10 a11 a12 a13 a14 a15 a16 a17 := ⟨a1, a2, a3, a4, a5, a6, a7, a8, a9, a10, a11, a12, a13, a14, a15, a16, a17, h⟩
theorem ex18.{u1, u2, u3, u4, u5, u6, u7, u8, u9, u10, u11, u12, u13, u14, u15, u16, u17, u18} {α1 : Sort u1} {α2 : Sort u2} {α3 : Sort u3} {α4 : Sort u4} {α5 : Sort u5} {α6 : Sort u6} {α7 : Sort u7} {α8 : Sort u8} {α9 : Sort u9} {α10 : Sort u10} {α11 : Sort u11} {α12 : Sort u12} {α13 : Sort u13} {α14 : Sort u14} {α15 : Sort u15} {α16 : Sort u16} {α17 : Sort u17} {α18 : Sort u18} {P : α1 → α2 → α3 → α4 → α5 → α6 → α7 → α8 → α9 → α10 → α11 → α12 → α13 → α14 → α15 → α16 → α17 → α18 → Prop} {C : Prop} (h : ∃ a1 a2 a3 a4 a5 a6 a7 a8 a9 a10 a11 a12 a13 a14 a15 a16 a17 a18, P a1 a2 a3 a4 a5 a6 a7 a8 a9 a10 a11 a12 a13 a14 a15 a16 a17 a18) (k : ∀ a1 a2 a3 a4 a5 a6 a7 a8 a9 a10 a11 a12 a13 a14 a15 a16 a17 a18, P a1 a2 a3 a4 a5 a6 a7 a8 a9 a10 a11 a12 a13 a14 a15 a16 a17 a18 → C) : C := h.elim fun a1 h => h.elim fun a2 h => h.elim fun a3 h => h.elim fun a4 h => h.elim fun a5 h => h.elim fun a6 h => h.elim fun a7 h => h.elim fun a8 h => h.elim fun a9 h => h.elim fun a10 h => h.elim fun a11 h => h.elim fun a12 h => h.elim fun a13 h => h.elim fun a14 h => h.elim fun a15 h => h.elim fun a16 h => h.elim fun a17 h => h.elim fun a18 h => k a1 a2 a3 a4 a5 a6 a7 a8 a9 a10 a11 a12 a13 a14 a15 a16 a17 a18 h
theorem exI18.{u1, u2, u3, u4, u5, u6, u7, u8, u9, u10, u11, u12, u13, u14, u15, u16, u17, u18} {α1 : Sort u1} {α2 : Sort u2} {α3 : Sort u3} {α4 : Sort u4} {α5 : Sort u5} {α6 : Sort u6} {α7 : Sort u7} {α8 : Sort u8} {α9 : Sort u9} {α10 : Sort u10} {α11 : Sort u11} {α12 : Sort u12} {α13 : Sort u13} {α14 : Sort u14} {α15 : Sort u15} {α16 : Sort u16} {α17 : Sort u17} {α18 : Sort u18} {P : α1 → α2 → α3 → α4 → α5 → α6 → α7 → α8 → α9 → α10 → α11 → α12 → α13 → α14 → α15 → α16 → α17 → α18 → Prop} {a1 : α1} {a2 : α2} {a3 : α3} {a4 : α4} {a5 : α5} {a6 : α6} {a7 : α7} {a8 : α8} {a9 : α9} {a10 : α10} {a11 : α11} {a12 : α12} {a13 : α13} {a14 : α14} {a15 : α15} {a16 : α16} {a17 : α17} {a18 : α18} (h : P a1 a2 a3 a4 a5 a6 a7 a8 a9 a10 a11 a12 a13 a14 a15 a16 a17 a18) : ∃ a1 a2 a3 a4 a5 a6 a7 a8 a9 a10 a11 a12 a13 a14 a15 a16 a17 a18, P a1 a2 a3 a4 a5 a6 a7 a8 a9 a10 a11 a12 a13 a14 a15 a16 a17 a18 := ⟨a1, a2, a3, a4, a5, a6, a7, a8, a9, a10, a11, a12, a13, a14, a15, a16, a17, a18, h⟩
theorem ex19.{u1, u2, u3, u4, u5, u6, u7, u8, u9, u10, u11, u12, u13, u14, u15, u16, u17, u18, u19} {α1 : Sort u1} {α2 : Sort u2} {α3 : Sort u3} {α4 : Sort u4} {α5 : Sort u5} {α6 : Sort u6} {α7 : Sort u7} {α8 : Sort u8} {α9 : Sort u9} {α10 : Sort u10} {α11 : Sort u11} {α12 : Sort u12} {α13 : Sort u13} {α14 : Sort u14} {α15 : Sort u15} {α16 : Sort u16} {α17 : Sort u17} {α18 : Sort u18} {α19 : Sort u19} {P : α1 → α2 → α3 → α4 → α5 → α6 → α7 → α8 → α9 → α10 → α11 → α12 → α13 → α14 → α15 → α16 → α17 → α18 → α19 → Prop} {C : Prop} (h : ∃ a1 a2 a3 a4 a5 a6 a7 a8 a9 a10 a11 a12 a13 a14 a15 a16 a17 a18 a19, P a1 a2 a3 a4 a5 a6 a7 a8 a9 a10 a11 a12 a13 a14 a15 a16 a17 a18 a19) (k : ∀ a1 a2 a3 a4 a5 a6 a7 a8 a9 a10 a11 a12 a13 a14 a15 a16 a17 a18 a19, P a1 a2 a3 a4 a5 a6 a7 a8 a9 a10 a11 a12 a13 a14 a15 a16 a17 a18 a19 → C) : C := h.elim fun a1 h => h.elim fun a2 h => h.elim fun a3 h => h.elim fun a4 h => h.elim fun a5 h => h.elim fun a6 h => h.elim fun a7 h => h.elim fun a8 h => h.elim fun a9 h => h.elim fun a10 h => h.elim fun a11 h => h.elim fun a12 h => h.elim fun a13 h => h.elim fun a14 h => h.elim fun a15 h => h.elim fun a16 h => h.elim fun a17 h => h.elim fun a18 h => h.elim fun a19 h => k a1 a2 a3 a4 a5 a6 a7 a8 a9 a10 a11 a12 a13 a14 a15 a16 a17 a18 a19 h
theorem exI19.{u1, u2, u3, u4, u5, u6, u7, u8, u9, u10, u11, u12, u13, u14, u15, u16, u17, u18, u19} {α1 : Sort u1} {α2 : Sort u2} {α3 : Sort u3} {α4 : Sort u4} {α5 : Sort u5} {α6 : Sort u6} {α7 : Sort u7} {α8 : Sort u8} {α9 : Sort u9} {α10 : Sort u10} {α11 : Sort u11} {α12 : Sort u12} {α13 : Sort u13} {α14 : Sort u14} {α15 : Sort u15} {α16 : Sort u16} {α17 : Sort u17} {α18 : Sort u18} {α19 : Sort u19} {P : α1 → α2 → α3 → α4 → α5 → α6 → α7 → α8 → α9 → α10 → α11 → α12 → α13 → α14 → α15 → α16 → α17 → α18 → α19 → Prop} {a1 : α1} {a2 : α2} {a3 : α3} {a4 : α4} {a5 : α5} {a6 : α6} {a7 : α7} {a8 : α8} {a9 : α9} {a10 : α10} {a11 : α11} {a12 : α12} {a13 : α13} {a14 : α14} {a15 : α15} {a16 : α16} {a17 : α17} {a18 : α18} {a19 : α19} (h : P a1 a2 a3 a4 a5 a6 a7 a8 a9 a10 a11 a12 a13 a14 a15 a16 a17 a18 a19) : ∃ a1 a2 a3 a4 a5 a6 a7 a8 a9 a10 a11 a12 a13 a14 a15 a16 a17 a18 a19, P a1 a2 a3 a4 a5 a6 a7 a8 a9 a10 a11 a12 a13 a14 a15 a16 a17 a18 a19 := ⟨a1, a2, a3, a4, a5, a6, a7, a8, a9, a10, a11, a12, a13, a14, a15, a16, a17, a18, a19, h⟩
theorem ex20.{u1, u2, u3, u4, u5, u6, u7, u8, u9, u10, u11, u12, u13, u14, u15, u16, u17, u18, u19, u20} {α1 : Sort u1} {α2 : Sort u2} {α3 : Sort u3} {α4 : Sort u4} {α5 : Sort u5} {α6 : Sort u6} {α7 : Sort u7} {α8 : Sort u8} {α9 : Sort u9} {α10 : Sort u10} {α11 : Sort u11} {α12 : Sort u12} {α13 : Sort u13} {α14 : Sort u14} {α15 : Sort u15} {α16 : Sort u16} {α17 : Sort u17} {α18 : Sort u18} {α19 : Sort u19} {α20 : Sort u20} {P : α1 → α2 → α3 → α4 → α5 → α6 → α7 → α8 → α9 → α10 → α11 → α12 → α13 → α14 → α15 → α16 → α17 → α18 → α19 → α20 → Prop} {C : Prop} (h : ∃ a1 a2 a3 a4 a5 a6 a7 a8 a9 a10 a11 a12 a13 a14 a15 a16 a17 a18 a19 a20, P a1 a2 a3 a4 a5 a6 a7 a8 a9 a10 a11 a12 a13 a14 a15 a16 a17 a18 a19 a20) (k : ∀ a1 a2 a3 a4 a5 a6 a7 a8 a9 a10 a11 a12 a13 a14 a15 a16 a17 a18 a19 a20, P a1 a2 a3 a4 a5 a6 a7 a8 a9 a10 a11 a12 a13 a14 a15 a16 a17 a18 a19 a20 → C) : C := h.elim fun a1 h => h.elim fun a2 h => h.elim fun a3 h => h.elim fun a4 h => h.elim fun a5 h => h.elim fun a6 h => h.elim fun a7 h => h.elim fun a8 h => h.elim fun a9 h => h.elim fun a10 h => h.elim fun a11 h => h.elim fun a12 h => h.elim fun a13 h => h.elim fun a14 h => h.elim fun a15 h => h.elim fun a16 h => h.elim fun a17 h => h.elim fun a18 h => h.elim fun a19 h => h.elim fun a20 h => k a1 a2 a3 a4 a5 a6 a7 a8 a9 a10 a11 a12 a13 a14 a15 a16 a17 a18 a19 a20 h
theorem exI20.{u1, u2, u3, u4, u5, u6, u7, u8, u9, u10, u11, u12, u13, u14, u15, u16, u17, u18, u19, u20} {α1 : Sort u1} {α2 : Sort u2} {α3 : Sort u3} {α4 : Sort u4} {α5 : Sort u5} {α6 : Sort u6} {α7 : Sort u7} {α8 : Sort u8} {α9 : Sort u9} {α10 : Sort u10} {α11 : Sort u11} {α12 : Sort u12} {α13 : Sort u13} {α14 : Sort u14} {α15 : Sort u15} {α16 : Sort u16} {α17 : Sort u17} {α18 : Sort u18} {α19 : Sort u19} {α20 : Sort u20} {P : α1 → α2 → α3 → α4 → α5 → α6 → α7 → α8 → α9 → α10 → α11 → α12 → α13 → α14 → α15 → α16 → α17 → α18 → α19 → α20 → Prop} {a1 : α1} {a2 : α2} {a3 : α3} {a4 : α4} {a5 : α5} {a6 : α6} {a7 : α7} {a8 : α8} {a9 : α9} {a10 : α10} {a11 : α11} {a12 : α12} {a13 : α13} {a14 : α14} {a15 : α15} {a16 : α16} {a17 : α17} {a18 : α18} {a19 : α19} {a20 : α20} (h : P a1 a2 a3 a4 a5 a6 a7 a8 a9 a10 a11 a12 a13 a14 a15 a16 a17 a18 a19 a20) : ∃ a1 a2 a3 a4 a5 a6 a7 a8 a9 a10 a11 a12 a13 a14 a15 a16 a17 a18 a19 a20, P a1 a2 a3 a4 a5 a6 a7 a8 a9 a10 a11 a12 a13 a14 a15 a16 a17 a18 a19 a20 := ⟨a1, a2, a3, a4, a5, a6, a7, a8, a9, a10, a11, a12, a13, a14, a15, a16, a17, a18, a19, a20, h⟩
theorem an2 {a1 a2 C : Prop} (h : a1 ∧ a2) (k : a1 → a2 → C) : C := k h.1 h.2
theorem an3 {a1 a2 a3 C : Prop} (h : a1 ∧ a2 ∧ a3) (k : a1 → a2 → a3 → C) : C := k h.1 h.2.1 h.2.2
theorem an4 {a1 a2 a3 a4 C : Prop} (h : a1 ∧ a2 ∧ a3 ∧ a4) (k : a1 → a2 → a3 → a4 → C) : C := k h.1 h.2.1 h.2.2.1 h.2.2.2
theorem an5 {a1 a2 a3 a4 a5 C : Prop} (h : a1 ∧ a2 ∧ a3 ∧ a4 ∧ a5) (k : a1 → a2 → a3 → a4 → a5 → C) : C := k h.1 h.2.1 h.2.2.1 h.2.2.2.1 h.2.2.2.2
theorem an6 {a1 a2 a3 a4 a5 a6 C : Prop} (h : a1 ∧ a2 ∧ a3 ∧ a4 ∧ a5 ∧ a6) (k : a1 → a2 → a3 → a4 → a5 → a6 → C) : C := k h.1 h.2.1 h.2.2.1 h.2.2.2.1 h.2.2.2.2.1 h.2.2.2.2.2
theorem an7 {a1 a2 a3 a4 a5 a6 a7 C : Prop} (h : a1 ∧ a2 ∧ a3 ∧ a4 ∧ a5 ∧ a6 ∧ a7) (k : a1 → a2 → a3 → a4 → a5 → a6 → a7 → C) : C := k h.1 h.2.1 h.2.2.1 h.2.2.2.1 h.2.2.2.2.1 h.2.2.2.2.2.1 h.2.2.2.2.2.2
theorem an8 {a1 a2 a3 a4 a5 a6 a7 a8 C : Prop} (h : a1 ∧ a2 ∧ a3 ∧ a4 ∧ a5 ∧ a6 ∧ a7 ∧ a8) (k : a1 → a2 → a3 → a4 → a5 → a6 → a7 → a8 → C) : C := k h.1 h.2.1 h.2.2.1 h.2.2.2.1 h.2.2.2.2.1 h.2.2.2.2.2.1 h.2.2.2.2.2.2.1 h.2.2.2.2.2.2.2
theorem an9 {a1 a2 a3 a4 a5 a6 a7 a8 a9 C : Prop} (h : a1 ∧ a2 ∧ a3 ∧ a4 ∧ a5 ∧ a6 ∧ a7 ∧ a8 ∧ a9) (k : a1 → a2 → a3 → a4 → a5 → a6 → a7 → a8 → a9 → C) : C := k h.1 h.2.1 h.2.2.1 h.2.2.2.1 h.2.2.2.2.1 h.2.2.2.2.2.1 h.2.2.2.2.2.2.1 h.2.2.2.2.2.2.2.1 h.2.2.2.2.2.2.2.2
theorem an10 {a1 a2 a3 a4 a5 a6 a7 a8 a9 a10 C : Prop} (h : a1 ∧ a2 ∧ a3 ∧ a4 ∧ a5 ∧ a6 ∧ a7 ∧ a8 ∧ a9 ∧ a10) (k : a1 → a2 → a3 → a4 → a5 → a6 → a7 → a8 → a9 → a10 → C) : C := k h.1 h.2.1 h.2.2.1 h.2.2.2.1 h.2.2.2.2.1 h.2.2.2.2.2.1 h.2.2.2.2.2.2.1 h.2.2.2.2.2.2.2.1 h.2.2.2.2.2.2.2.2.1 h.2.2.2.2.2.2.2.2.2
theorem an11 {a1 a2 a3 a4 a5 a6 a7 a8 a9 a10 a11 C : Prop} (h : a1 ∧ a2 ∧ a3 ∧ a4 ∧ a5 ∧ a6 ∧ a7 ∧ a8 ∧ a9 ∧ a10 ∧ a11) (k : a1 → a2 → a3 → a4 → a5 → a6 → a7 → a8 → a9 → a10 → a11 → C) : C := k h.1 h.2.1 h.2.2.1 h.2.2.2.1 h.2.2.2.2.1 h.2.2.2.2.2.1 h.2.2.2.2.2.2.1 h.2.2.2.2.2.2.2.1 h.2.2.2.2.2.2.2.2.1 h.2.2.2.2.2.2.2.2.2.1 h.2.2.2.2.2.2.2.2.2.2
theorem an12 {a1 a2 a3 a4 a5 a6 a7 a8 a9 a10 a11 a12 C : Prop} (h : a1 ∧ a2 ∧ a3 ∧ a4 ∧ a5 ∧ a6 ∧ a7 ∧ a8 ∧ a9 ∧ a10 ∧ a11 ∧ a12) (k : a1 → a2 → a3 → a4 → a5 → a6 → a7 → a8 → a9 → a10 → a11 → a12 → C) : C := k h.1 h.2.1 h.2.2.1 h.2.2.2.1 h.2.2.2.2.1 h.2.2.2.2.2.1 h.2.2.2.2.2.2.1 h.2.2.2.2.2.2.2.1 h.2.2.2.2.2.2.2.2.1 h.2.2.2.2.2.2.2.2.2.1 h.2.2.2.2.2.2.2.2.2.2.1 h.2.2.2.2.2.2.2.2.2.2.2
theorem an13 {a1 a2 a3 a4 a5 a6 a7 a8 a9 a10 a11 a12 a13 C : Prop} (h : a1 ∧ a2 ∧ a3 ∧ a4 ∧ a5 ∧ a6 ∧ a7 ∧ a8 ∧ a9 ∧ a10 ∧ a11 ∧ a12 ∧ a13) (k : a1 → a2 → a3 → a4 → a5 → a6 → a7 → a8 → a9 → a10 → a11 → a12 → a13 → C) : C := k h.1 h.2.1 h.2.2.1 h.2.2.2.1 h.2.2.2.2.1 h.2.2.2.2.2.1 h.2.2.2.2.2.2.1 h.2.2.2.2.2.2.2.1 h.2.2.2.2.2.2.2.2.1 h.2.2.2.2.2.2.2.2.2.1 h.2.2.2.2.2.2.2.2.2.2.1 h.2.2.2.2.2.2.2.2.2.2.2.1 h.2.2.2.2.2.2.2.2.2.2.2.2
theorem an14 {a1 a2 a3 a4 a5 a6 a7 a8 a9 a10 a11 a12 a13 a14 C : Prop} (h : a1 ∧ a2 ∧ a3 ∧ a4 ∧ a5 ∧ a6 ∧ a7 ∧ a8 ∧ a9 ∧ a10 ∧ a11 ∧ a12 ∧ a13 ∧ a14) (k : a1 → a2 → a3 → a4 → a5 → a6 → a7 → a8 → a9 → a10 → a11 → a12 → a13 → a14 → C) : C := k h.1 h.2.1 h.2.2.1 h.2.2.2.1 h.2.2.2.2.1 h.2.2.2.2.2.1 h.2.2.2.2.2.2.1 h.2.2.2.2.2.2.2.1 h.2.2.2.2.2.2.2.2.1 h.2.2.2.2.2.2.2.2.2.1 h.2.2.2.2.2.2.2.2.2.2.1 h.2.2.2.2.2.2.2.2.2.2.2.1 h.2.2.2.2.2.2.2.2.2.2.2.2.1 h.2.2.2.2.2.2.2.2.2.2.2.2.2
theorem an15 {a1 a2 a3 a4 a5 a6 a7 a8 a9 a10 a11 a12 a13 a14 a15 C : Prop} (h : a1 ∧ a2 ∧ a3 ∧ a4 ∧ a5 ∧ a6 ∧ a7 ∧ a8 ∧ a9 ∧ a10 ∧ a11 ∧ a12 ∧ a13 ∧ a14 ∧ a15) (k : a1 → a2 → a3 → a4 → a5 → a6 → a7 → a8 → a9 → a10 → a11 → a12 → a13 → a14 → a15 → C) : C := k h.1 h.2.1 h.2.2.1 h.2.2.2.1 h.2.2.2.2.1 h.2.2.2.2.2.1 h.2.2.2.2.2.2.1 h.2.2.2.2.2.2.2.1 h.2.2.2.2.2.2.2.2.1 h.2.2.2.2.2.2.2.2.2.1 h.2.2.2.2.2.2.2.2.2.2.1 h.2.2.2.2.2.2.2.2.2.2.2.1 h.2.2.2.2.2.2.2.2.2.2.2.2.1 h.2.2.2.2.2.2.2.2.2.2.2.2.2.1 h.2.2.2.2.2.2.2.2.2.2.2.2.2.2
theorem an16 {a1 a2 a3 a4 a5 a6 a7 a8 a9 a10 a11 a12 a13 a14 a15 a16 C : Prop} (h : a1 ∧ a2 ∧ a3 ∧ a4 ∧ a5 ∧ a6 ∧ a7 ∧ a8 ∧ a9 ∧ a10 ∧ a11 ∧ a12 ∧ a13 ∧ a14 ∧ a15 ∧ a16) (k : a1 → a2 → a3 → a4 → a5 → a6 → a7 → a8 → a9 → a10 → a11 → a12 → a13 → a14 → a15 → a16 → C) : C := k h.1 h.2.1 h.2.2.1 h.2.2.2.1 h.2.2.2.2.1 h.2.2.2.2.2.1 h.2.2.2.2.2.2.1 h.2.2.2.2.2.2.2.1 h.2.2.2.2.2.2.2.2.1 h.2.2.2.2.2.2.2.2.2.1 h.2.2.2.2.2.2.2.2.2.2.1 h.2.2.2.2.2.2.2.2.2.2.2.1 h.2.2.2.2.2.2.2.2.2.2.2.2.1 h.2.2.2.2.2.2.2.2.2.2.2.2.2.1 h.2.2.2.2.2.2.2.2.2.2.2.2.2.2.1 h.2.2.2.2.2.2.2.2.2.2.2.2.2.2.2
theorem wpAny_tok {α : Type} {M : Model} {A : Around} {t : Sem α} {Q : α → Shared → Prop} {E : Value → Shared → Prop} {h : Heap} {g : Array GenState} {d : Drawn} {n : Nat} {o : OsState} (k : ∀ tk, wpAny M A t Q E { heap := h, gens := g, drawn := d, toks := tk, os := o }) : wpAny M A t Q E { heap := h, gens := g, drawn := d, toks := n, os := o } := k n
theorem forall_app {P : Addr × Obj → Prop} {a b : Led} (h1 : ∀ p ∈ a, P p) (h2 : ∀ p ∈ b, P p) : ∀ p ∈ a ++ b, P p := fun p hp => (List.mem_append.mp hp).elim (h1 p) (h2 p)
/-- an entry taken out of a ledger -/
inductive Pull (d : Addr) (o : Obj) : Led → Led → Prop
  | head {r : Led} : Pull d o ((d, o) :: r) r
  | tail {p : Addr × Obj} {l r : Led} : Pull d o l r → Pull d o (p :: l) (p :: r)
theorem News.pull {h₀ h : Heap} {L d : Addr} {o : Obj} : ∀ {l r : Led}, Pull d o l r → News h₀ L h l → News h₀ L h ((d, o) :: r)
  | _, _, .head, N => N
  | _, _, .tail (p := p) P, N => fun q hq => by
    rcases List.mem_cons.mp hq with rfl | hq
    · exact News.pull P (fun x hx => N x (.tail _ hx)) _ (.head _)
    · rcases List.mem_cons.mp hq with rfl | hq
      · exact N _ (.head _)
      · exact News.pull P (fun x hx => N x (.tail _ hx)) _ (.tail _ hq)
theorem rm1 {a b R : Nat} (h : a + b < R) : a < R := Nat.lt_of_le_of_lt (Nat.le_add_right a b) h
theorem rm2 {a b c R : Nat} (h : a + b < R) (e : Nat.ble c b = true) : a + c < R := Nat.lt_of_le_of_lt (Nat.add_le_add_left (Nat.le_of_ble_eq_true e) a) h
theorem rm3 {a b c d R : Nat} (h : a + b < R) (e : Nat.ble (c + d) b = true) : a + c + d < R := by rw [Nat.add_assoc]; exact rm2 h e
theorem rm4 {a b c d R : Nat} (h : a + b + c < R) (e : Nat.ble d (b + c) = true) : a + d < R := by rw [Nat.add_assoc] at h; exact rm2 h e
theorem rm5 {a b c d f R : Nat} (h : a + b + c < R) (e : Nat.ble (d + f) (b + c) = true) : a + d + f < R := by rw [Nat.add_assoc a d f]; exact rm4 h e
theorem rm6 {a b c d f g R : Nat} (h : a + b + c < R) (e : Nat.ble (d + f + g) (b + c) = true) : a + d + f + g < R := by rw [Nat.add_assoc (a + d), Nat.add_assoc a d]; exact rm4 h (by rw [← Nat.add_assoc]; exact e)
theorem le_lit {a b c : Nat} (h : a ≤ b) (e : Nat.ble b c = true) : a ≤ c := Nat.le_trans h (Nat.le_of_ble_eq_true e)
theorem in_hd {a : Addr × Obj} {L : Led} : a ∈ a :: L := .head _
theorem in_tl {a b : Addr × Obj} {L : Led} (h : a ∈ L) : a ∈ b :: L := .tail _ h
theorem in_rt {a : Addr × Obj} {b L : Led} (h : a ∈ L) : a ∈ b ++ L := List.mem_append_right _ h
theorem sb_nil {L : Led} : ∀ p ∈ ([] : Led), p ∈ L := List.forall_mem_nil _
theorem sb_cons {a : Addr × Obj} {r L : Led} (h1 : a ∈ L) (h2 : ∀ p ∈ r, p ∈ L) : ∀ p ∈ a :: r, p ∈ L := List.forall_mem_cons.mpr ⟨h1, h2⟩
theorem sb_app {a b L : Led} (h1 : ∀ p ∈ a, p ∈ L) (h2 : ∀ p ∈ b, p ∈ L) : ∀ p ∈ a ++ b, p ∈ L := forall_app h1 h2
theorem sb_tl {a : Addr × Obj} {x L : Led} (h : ∀ p ∈ x, p ∈ L) : ∀ p ∈ x, p ∈ a :: L := fun p hp => .tail _ (h p hp)
theorem sb_rt {a x L : Led} (h : ∀ p ∈ x, p ∈ L) : ∀ p ∈ x, p ∈ a ++ L := fun p hp => List.mem_append_right _ (h p hp)
theorem sb_rfl {x : Led} : ∀ p ∈ x, p ∈ x := fun _ h => h
theorem sb_lt {x b L : Led} (h : ∀ p ∈ x, p ∈ L) : ∀ p ∈ x, p ∈ L ++ b := fun p hp => List.mem_append_left _ (h p hp)
theorem kd1 {dp un b : Nat} {gd cn cs L a ccd cl outer} (h : dp + b < recursionLimit) : (ktrTop dp un gd cn cs L a ccd cl outer).depth < recursionLimit := rm1 h
theorem kd2 {dp un b c : Nat} {gd cn cs L a ccd cl outer} (h : dp + b < recursionLimit) (e : Nat.ble c b = true) : (ktrTop dp un gd cn cs L a ccd cl outer).depth + c < recursionLimit := rm2 (a := dp) h e
theorem kd3 {dp un b c d : Nat} {gd cn cs L a ccd cl outer} (h : dp + b < recursionLimit) (e : Nat.ble (c + d) b = true) : (ktrTop dp un gd cn cs L a ccd cl outer).depth + c + d < recursionLimit := rm3 (a := dp) h e
theorem ku2 {dp un b c d : Nat} {gd cn cs L a ccd cl outer} (h : un + b + c < cLine) (e : Nat.ble d (b + c) = true) : (ktrTop dp un gd cn cs L a ccd cl outer).units + d < cLine := rm4 (a := un) h e
theorem ku3 {dp un b c d f : Nat} {gd cn cs L a ccd cl outer} (h : un + b + c < cLine) (e : Nat.ble (d + f) (b + c) = true) : (ktrTop dp un gd cn cs L a ccd cl outer).units + d + f < cLine := rm5 (a := un) h e
theorem ku4 {dp un b c d f g : Nat} {gd cn cs L a ccd cl outer} (h : un + b + c < cLine) (e : Nat.ble (d + f + g) (b + c) = true) : (ktrTop dp un gd cn cs L a ccd cl outer).units + d + f + g < cLine := rm6 (a := un) h e
/-- keeps instantiateMVars from putting a generalized term back (it beta-reduces an assigned hole's application) -/
theorem opq {P : Prop} (h : P) : P := h
/-! the same a frame deeper -/
theorem rk6 {a b c d : Nat} {R : Nat} (h : a + b < R) (e : Nat.ble (1 + c + d) b = true) : a + 1 + c + d < R := by have := Nat.le_of_ble_eq_true e; omega
theorem rk7 {a b c d f g : Nat} {R : Nat} (h : a + b + c < R) (e : Nat.ble (3 + d + f + g) (b + c) = true) : a + 3 + d + f + g < R := by have := Nat.le_of_ble_eq_true e; omega
theorem ke1 {dp un b : Nat} {gd cn cs L a ccd cl outer env} (h : dp + b < recursionLimit) (e : Nat.ble 1 b = true) : ((ktrTop dp un gd cn cs L a ccd cl outer).deeper env).depth < recursionLimit := rm2 (a := dp) (c := 1) h e
theorem ke2 {dp un b c : Nat} {gd cn cs L a ccd cl outer env} (h : dp + b < recursionLimit) (e : Nat.ble (1 + c) b = true) : ((ktrTop dp un gd cn cs L a ccd cl outer).deeper env).depth + c < recursionLimit := rm3 (a := dp) (c := 1) h e
theorem ke3 {dp un b c d : Nat} {gd cn cs L a ccd cl outer env} (h : dp + b < recursionLimit) (e : Nat.ble (1 + c + d) b = true) : ((ktrTop dp un gd cn cs L a ccd cl outer).deeper env).depth + c + d < recursionLimit := rk6 (a := dp) h e
theorem kf2 {dp un b c d : Nat} {gd cn cs L a ccd cl outer env} (h : un + b + c < cLine) (e : Nat.ble (3 + d) (b + c) = true) : ((ktrTop dp un gd cn cs L a ccd cl outer).deeper env).units + d < cLine := rm5 (a := un) (d := 3) h e
theorem kf3 {dp un b c d f : Nat} {gd cn cs L a ccd cl outer env} (h : un + b + c < cLine) (e : Nat.ble (3 + d + f) (b + c) = true) : ((ktrTop dp un gd cn cs L a ccd cl outer).deeper env).units + d + f < cLine := rm6 (a := un) (d := 3) h e
theorem kf4 {dp un b c d f g : Nat} {gd cn cs L a ccd cl outer env} (h : un + b + c < cLine) (e : Nat.ble (3 + d + f + g) (b + c) = true) : ((ktrTop dp un gd cn cs L a ccd cl outer).deeper env).units + d + f + g < cLine := rk7 (a := un) h e
/-! the addresses ahead of a new one, told at once (k_lt) -/
theorem al1 {D : Addr} {C : Prop} {r : Led} {a1 : Addr} {o1 : Obj} (h : ∀ p ∈ (a1, o1) :: r, p.1 < D) (f : @LT.lt Nat _ a1 D → AllLt D r → C) : C := f (h _ (.head _)) (allLt_of fun p hp => h p (.tail _ hp))
theorem al2 {D : Addr} {C : Prop} {r : Led} {a1 a2 : Addr} {o1 o2 : Obj} (h : ∀ p ∈ (a1, o1) :: (a2, o2) :: r, p.1 < D) (f : @LT.lt Nat _ a1 D → @LT.lt Nat _ a2 D → AllLt D r → C) : C := al1 h fun x1 y => al1 (allLt_mem y) (f x1)
theorem al3 {D : Addr} {C : Prop} {r : Led} {a1 a2 a3 : Addr} {o1 o2 o3 : Obj} (h : ∀ p ∈ (a1, o1) :: (a2, o2) :: (a3, o3) :: r, p.1 < D) (f : @LT.lt Nat _ a1 D → @LT.lt Nat _ a2 D → @LT.lt Nat _ a3 D → AllLt D r → C) : C := al2 h fun x1 x2 y => al1 (allLt_mem y) (f x1 x2)
theorem al4 {D : Addr} {C : Prop} {r : Led} {a1 a2 a3 a4 : Addr} {o1 o2 o3 o4 : Obj} (h : ∀ p ∈ (a1, o1) :: (a2, o2) :: (a3, o3) :: (a4, o4) :: r, p.1 < D) (f : @LT.lt Nat _ a1 D → @LT.lt Nat _ a2 D → @LT.lt Nat _ a3 D → @LT.lt Nat _ a4 D → AllLt D r → C) : C := al3 h fun x1 x2 x3 y => al1 (allLt_mem y) (f x1 x2 x3)
theorem al5 {D : Addr} {C : Prop} {r : Led} {a1 a2 a3 a4 a5 : Addr} {o1 o2 o3 o4 o5 : Obj} (h : ∀ p ∈ (a1, o1) :: (a2, o2) :: (a3, o3) :: (a4, o4) :: (a5, o5) :: r, p.1 < D) (f : @LT.lt Nat _ a1 D → @LT.lt Nat _ a2 D → @LT.lt Nat _ a3 D → @LT.lt Nat _ a4 D → @LT.lt Nat _ a5 D → AllLt D r → C) : C := al4 h fun x1 x2 x3 x4 y => al1 (allLt_mem y) (f x1 x2 x3 x4)
theorem al6 {D : Addr} {C : Prop} {r : Led} {a1 a2 a3 a4 a5 a6 : Addr} {o1 o2 o3 o4 o5 o6 : Obj} (h : ∀ p ∈ (a1, o1) :: (a2, o2) :: (a3, o3) :: (a4, o4) :: (a5, o5) :: (a6, o6) :: r, p.1 < D) (f : @LT.lt Nat _ a1 D → @LT.lt Nat _ a2 D → @LT.lt Nat _ a3 D → @LT.lt Nat _ a4 D → @LT.lt Nat _ a5 D → @LT.lt Nat _ a6 D → AllLt D r → C) : C := al5 h fun x1 x2 x3 x4 x5 y => al1 (allLt_mem y) (f x1 x2 x3 x4 x5)
theorem al8 {D : Addr} {C : Prop} {r : Led} {a1 a2 a3 a4 a5 a6 a7 a8 : Addr} {o1 o2 o3 o4 o5 o6 o7 o8 : Obj} (h : ∀ p ∈ (a1, o1) :: (a2, o2) :: (a3, o3) :: (a4, o4) :: (a5, o5) :: (a6, o6) :: (a7, o7) :: (a8, o8) :: r, p.1 < D) (f : @LT.lt Nat _ a1 D → @LT.lt Nat _ a2 D → @LT.lt Nat _ a3 D → @LT.lt Nat _ a4 D → @LT.lt Nat _ a5 D → @LT.lt Nat _ a6 D → @LT.lt Nat _ a7 D → @LT.lt Nat _ a8 D → AllLt D r → C) : C := al6 h fun x1 x2 x3 x4 x5 x6 y => al2 (allLt_mem y) (f x1 x2 x3 x4 x5 x6)
theorem al10 {D : Addr} {C : Prop} {r : Led} {a1 a2 a3 a4 a5 a6 a7 a8 a9 a10 : Addr} {o1 o2 o3 o4 o5 o6 o7 o8 o9 o10 : Obj} (h : ∀ p ∈ (a1, o1) :: (a2, o2) :: (a3, o3) :: (a4, o4) :: (a5, o5) :: (a6, o6) :: (a7, o7) :: (a8, o8) :: (a9, o9) :: (a10, o10) :: r, p.1 < D) (f : @LT.lt Nat _ a1 D → @LT.lt Nat _ a2 D → @LT.lt Nat _ a3 D → @LT.lt Nat _ a4 D → @LT.lt Nat _ a5 D → @LT.lt Nat _ a6 D → @LT.lt Nat _ a7 D → @LT.lt Nat _ a8 D → @LT.lt Nat _ a9 D → @LT.lt Nat _ a10 D → AllLt D r → C) : C := al8 h fun x1 x2 x3 x4 x5 x6 x7 x8 y => al2 (allLt_mem y) (f x1 x2 x3 x4 x5 x6 x7 x8)
theorem al12 {D : Addr} {C : Prop} {r : Led} {a1 a2 a3 a4 a5 a6 a7 a8 a9 a10 a11 a12 : Addr} {o1 o2 o3 o4 o5 o6 o7 o8 o9 o10 o11 o12 : Obj} (h : ∀ p ∈ (a1, o1) :: (a2, o2) :: (a3, o3) :: (a4, o4) :: (a5, o5) :: (a6, o6) :: (a7, o7) :: (a8, o8) :: (a9, o9) :: (a10, o10) :: (a11, o11) :: (a12, o12) :: r, p.1 < D) (f : @LT.lt Nat _ a1 D → @LT.lt Nat _ a2 D → @LT.lt Nat _ a3 D → @LT.lt Nat _ a4 D → @LT.lt Nat _ a5 D → @LT.lt Nat _ a6 D → @LT.lt Nat _ a7 D → @LT.lt Nat _ a8 D → @LT.lt Nat _ a9 D → @LT.lt Nat _ a10 D → @LT.lt Nat _ a11 D → @LT.lt Nat _ a12 D → AllLt D r → C) : C := al10 h fun x1 x2 x3 x4 x5 x6 x7 x8 x9 x10 y => al2 (allLt_mem y) (f x1 x2 x3 x4 x5 x6 x7 x8 x9 x10)
theorem al16 {D : Addr} {C : Prop} {r : Led} {a1 a2 a3 a4 a5 a6 a7 a8 a9 a10 a11 a12 a13 a14 a15 a16 : Addr} {o1 o2 o3 o4 o5 o6 o7 o8 o9 o10 o11 o12 o13 o14 o15 o16 : Obj} (h : ∀ p ∈ (a1, o1) :: (a2, o2) :: (a3, o3) :: (a4, o4) :: (a5, o5) :: (a6, o6) :: (a7, o7) :: (a8, o8) :: (a9, o9) :: (a10, o10) :: (a11, o11) :: (a12, o12) :: (a13, o13) :: (a14, o14) :: (a15, o15) :: (a16, o16) :: r, p.1 < D) (f : @LT.lt Nat _ a1 D → @LT.lt Nat _ a2 D → @LT.lt Nat _ a3 D → @LT.lt Nat _ a4 D → @LT.lt Nat _ a5 D → @LT.lt Nat _ a6 D → @LT.lt Nat _ a7 D → @LT.lt Nat _ a8 D → @LT.lt Nat _ a9 D → @LT.lt Nat _ a10 D → @LT.lt Nat _ a11 D → @LT.lt Nat _ a12 D → @LT.lt Nat _ a13 D → @LT.lt Nat _ a14 D → @LT.lt Nat _ a15 D → @LT.lt Nat _ a16 D → AllLt D r → C) : C := al12 h fun x1 x2 x3 x4 x5 x6 x7 x8 x9 x10 x11 x12 y => al4 (allLt_mem y) (f x1 x2 x3 x4 x5 x6 x7 x8 x9 x10 x11 x12)
/-! Spec.use, the contract's witnesses and its two equations put in -/
theorem Spec.use0e {w : World} {f : Addr} {vs : List Value} {news : Led} {D : Nat} {X : Value} {Y : Led} (S : Spec w f vs news D (fun r n => r = X ∧ n = Y))
    {dp un : Nat} {gd : Option (List Code)} {cn : Str} {cs : Scope} {a : Addr} {ccd : Value} {cl : List (Str × Addr)} {outer : List Env} {A₀ : Around} {base h₀ : Heap} {L : Addr} {m : Str → Option Value} {s : Shared}
    {mean : ExcName → Option Value} {mg mb : Str → Option Value} {Q E : Value → Shared → Prop}
    (B : Below A₀ base outer h₀) (F : Fr h₀ L s.heap m) (X₀ : (Mine.k.heap_1 w.params).In h₀) (N : News h₀ L s.heap news) (T : Top Mine.k.view_1 LO mean mg mb h₀) (hk : cs.kind = .function) (hd : dp + D < recursionLimit) (hu : un + 8 * D + 200 < cLine)
    (h : ∀ h' tk', Fr h₀ L h' m → News h₀ L h' Y → Q X { s with heap := h', toks := tk' }) :
    wpAny (model PySem.Challenge.rw_qz0105_01.row.prog w) (ktrTop dp un gd cn cs L a ccd cl outer) (call (.ref f) vs) Q E s := S.use B F X₀ N T hk hd hu fun _ _ h' tk' F N p => an2 p fun e1 e2 => by subst e1; subst e2; exact h  h' tk' F N
theorem Spec.use1e {w : World} {f : Addr} {vs : List Value} {news : Led} {D : Nat} {α1 : Type} {X : α1 → Value} {Y : α1 → Led} (S : Spec w f vs news D (fun r n => ∃ a1, r = X a1 ∧ n = Y a1))
    {dp un : Nat} {gd : Option (List Code)} {cn : Str} {cs : Scope} {a : Addr} {ccd : Value} {cl : List (Str × Addr)} {outer : List Env} {A₀ : Around} {base h₀ : Heap} {L : Addr} {m : Str → Option Value} {s : Shared}
    {mean : ExcName → Option Value} {mg mb : Str → Option Value} {Q E : Value → Shared → Prop}
    (B : Below A₀ base outer h₀) (F : Fr h₀ L s.heap m) (X₀ : (Mine.k.heap_1 w.params).In h₀) (N : News h₀ L s.heap news) (T : Top Mine.k.view_1 LO mean mg mb h₀) (hk : cs.kind = .function) (hd : dp + D < recursionLimit) (hu : un + 8 * D + 200 < cLine)
    (h : ∀ a1 h' tk', Fr h₀ L h' m → News h₀ L h' (Y a1) → Q (X a1) { s with heap := h', toks := tk' }) :
    wpAny (model PySem.Challenge.rw_qz0105_01.row.prog w) (ktrTop dp un gd cn cs L a ccd cl outer) (call (.ref f) vs) Q E s := S.use B F X₀ N T hk hd hu fun _ _ h' tk' F N p => ex1 p fun a1 p => an2 p fun e1 e2 => by subst e1; subst e2; exact h a1 h' tk' F N
theorem Spec.use2e {w : World} {f : Addr} {vs : List Value} {news : Led} {D : Nat} {α1 α2 : Type} {X : α1 → α2 → Value} {Y : α1 → α2 → Led} (S : Spec w f vs news D (fun r n => ∃ a1 a2, r = X a1 a2 ∧ n = Y a1 a2))
    {dp un : Nat} {gd : Option (List Code)} {cn : Str} {cs : Scope} {a : Addr} {ccd : Value} {cl : List (Str × Addr)} {outer : List Env} {A₀ : Around} {base h₀ : Heap} {L : Addr} {m : Str → Option Value} {s : Shared}
    {mean : ExcName → Option Value} {mg mb : Str → Option Value} {Q E : Value → Shared → Prop}
    (B : Below A₀ base outer h₀) (F : Fr h₀ L s.heap m) (X₀ : (Mine.k.heap_1 w.params).In h₀) (N : News h₀ L s.heap news) (T : Top Mine.k.view_1 LO mean mg mb h₀) (hk : cs.kind = .function) (hd : dp + D < recursionLimit) (hu : un + 8 * D + 200 < cLine)
    (h : ∀ a1 a2 h' tk', Fr h₀ L h' m → News h₀ L h' (Y a1 a2) → Q (X a1 a2) { s with heap := h', toks := tk' }) :
    wpAny (model PySem.Challenge.rw_qz0105_01.row.prog w) (ktrTop dp un gd cn cs L a ccd cl outer) (call (.ref f) vs) Q E s := S.use B F X₀ N T hk hd hu fun _ _ h' tk' F N p => ex2 p fun a1 a2 p => an2 p fun e1 e2 => by subst e1; subst e2; exact h a1 a2 h' tk' F N
theorem Spec.use3 {w : World} {f : Addr} {vs : List Value} {news : Led} {D : Nat} {α1 α2 α3 : Type} {X : α1 → α2 → α3 → Value} {Y : α1 → α2 → α3 → Led} {P : α1 → α2 → α3 → Prop} (S : Spec w f vs news D (fun r n => ∃ a1 a2 a3, r = X a1 a2 a3 ∧ n = Y a1 a2 a3 ∧ P a1 a2 a3))
    {dp un : Nat} {gd : Option (List Code)} {cn : Str} {cs : Scope} {a : Addr} {ccd : Value} {cl : List (Str × Addr)} {outer : List Env} {A₀ : Around} {base h₀ : Heap} {L : Addr} {m : Str → Option Value} {s : Shared}
    {mean : ExcName → Option Value} {mg mb : Str → Option Value} {Q E : Value → Shared → Prop}
    (B : Below A₀ base outer h₀) (F : Fr h₀ L s.heap m) (X₀ : (Mine.k.heap_1 w.params).In h₀) (N : News h₀ L s.heap news) (T : Top Mine.k.view_1 LO mean mg mb h₀) (hk : cs.kind = .function) (hd : dp + D < recursionLimit) (hu : un + 8 * D + 200 < cLine)
    (h : ∀ a1 a2 a3 h' tk', Fr h₀ L h' m → News h₀ L h' (Y a1 a2 a3) → P a1 a2 a3 → Q (X a1 a2 a3) { s with heap := h', toks := tk' }) :
    wpAny (model PySem.Challenge.rw_qz0105_01.row.prog w) (ktrTop dp un gd cn cs L a ccd cl outer) (call (.ref f) vs) Q E s := S.use B F X₀ N T hk hd hu fun _ _ h' tk' F N p => ex3 p fun a1 a2 a3 p => an3 p fun e1 e2 q => by subst e1; subst e2; exact h a1 a2 a3 h' tk' F N q
theorem Spec.use4 {w : World} {f : Addr} {vs : List Value} {news : Led} {D : Nat} {α1 α2 α3 α4 : Type} {X : α1 → α2 → α3 → α4 → Value} {Y : α1 → α2 → α3 → α4 → Led} {P : α1 → α2 → α3 → α4 → Prop} (S : Spec w f vs news D (fun r n => ∃ a1 a2 a3 a4, r = X a1 a2 a3 a4 ∧ n = Y a1 a2 a3 a4 ∧ P a1 a2 a3 a4))
    {dp un : Nat} {gd : Option (List Code)} {cn : Str} {cs : Scope} {a : Addr} {ccd : Value} {cl : List (Str × Addr)} {outer : List Env} {A₀ : Around} {base h₀ : Heap} {L : Addr} {m : Str → Option Value} {s : Shared}
    {mean : ExcName → Option Value} {mg mb : Str → Option Value} {Q E : Value → Shared → Prop}
    (B : Below A₀ base outer h₀) (F : Fr h₀ L s.heap m) (X₀ : (Mine.k.heap_1 w.params).In h₀) (N : News h₀ L s.heap news) (T : Top Mine.k.view_1 LO mean mg mb h₀) (hk : cs.kind = .function) (hd : dp + D < recursionLimit) (hu : un + 8 * D + 200 < cLine)
    (h : ∀ a1 a2 a3 a4 h' tk', Fr h₀ L h' m → News h₀ L h' (Y a1 a2 a3 a4) → P a1 a2 a3 a4 → Q (X a1 a2 a3 a4) { s with heap := h', toks := tk' }) :
    wpAny (model PySem.Challenge.rw_qz0105_01.row.prog w) (ktrTop dp un gd cn cs L a ccd cl outer) (call (.ref f) vs) Q E s := S.use B F X₀ N T hk hd hu fun _ _ h' tk' F N p => ex4 p fun a1 a2 a3 a4 p => an3 p fun e1 e2 q => by subst e1; subst e2; exact h a1 a2 a3 a4 h' tk' F N q
theorem Spec.use5 {w : World} {f : Addr} {vs : List Value} {news : Led} {D : Nat} {α1 α2 α3 α4 α5 : Type} {X : α1 → α2 → α3 → α4 → α5 → Value} {Y : α1 → α2 → α3 → α4 → α5 → Led} {P : α1 → α2 → α3 → α4 → α5 → Prop} (S : Spec w f vs news D (fun r n => ∃ a1 a2 a3 a4 a5, r = X a1 a2 a3 a4 a5 ∧ n = Y a1 a2 a3 a4 a5 ∧ P a1 a2 a3 a4 a5))
    {dp un : Nat} {gd : Option (List Code)} {cn : Str} {cs : Scope} {a : Addr} {ccd : Value} {cl : List (Str × Addr)} {outer : List Env} {A₀ : Around} {base h₀ : Heap} {L : Addr} {m : Str → Option Value} {s : Shared}
    {mean : ExcName → Option Value} {mg mb : Str → Option Value} {Q E : Value → Shared → Prop}
    (B : Below A₀ base outer h₀) (F : Fr h₀ L s.heap m) (X₀ : (Mine.k.heap_1 w.params).In h₀) (N : News h₀ L s.heap news) (T : Top Mine.k.view_1 LO mean mg mb h₀) (hk : cs.kind = .function) (hd : dp + D < recursionLimit) (hu : un + 8 * D + 200 < cLine)
    (h : ∀ a1 a2 a3 a4 a5 h' tk', Fr h₀ L h' m → News h₀ L h' (Y a1 a2 a3 a4 a5) → P a1 a2 a3 a4 a5 → Q (X a1 a2 a3 a4 a5) { s with heap := h', toks := tk' }) :
    wpAny (model PySem.Challenge.rw_qz0105_01.row.prog w) (ktrTop dp un gd cn cs L a ccd cl outer) (call (.ref f) vs) Q E s := S.use B F X₀ N T hk hd hu fun _ _ h' tk' F N p => ex5 p fun a1 a2 a3 a4 a5 p => an3 p fun e1 e2 q => by subst e1; subst e2; exact h a1 a2 a3 a4 a5 h' tk' F N q
theorem Spec.use6 {w : World} {f : Addr} {vs : List Value} {news : Led} {D : Nat} {α1 α2 α3 α4 α5 α6 : Type} {X : α1 → α2 → α3 → α4 → α5 → α6 → Value} {Y : α1 → α2 → α3 → α4 → α5 → α6 → Led} {P : α1 → α2 → α3 → α4 → α5 → α6 → Prop} (S : Spec w f vs news D (fun r n => ∃ a1 a2 a3 a4 a5 a6, r = X a1 a2 a3 a4 a5 a6 ∧ n = Y a1 a2 a3 a4 a5 a6 ∧ P a1 a2 a3 a4 a5 a6))
    {dp un : Nat} {gd : Option (List Code)} {cn : Str} {cs : Scope} {a : Addr} {ccd : Value} {cl : List (Str × Addr)} {outer : List Env} {A₀ : Around} {base h₀ : Heap} {L : Addr} {m : Str → Option Value} {s : Shared}
    {mean : ExcName → Option Value} {mg mb : Str → Option Value} {Q E : Value → Shared → Prop}
    (B : Below A₀ base outer h₀) (F : Fr h₀ L s.heap m) (X₀ : (Mine.k.heap_1 w.params).In h₀) (N : News h₀ L s.heap news) (T : Top Mine.k.view_1 LO mean mg mb h₀) (hk : cs.kind = .function) (hd : dp + D < recursionLimit) (hu : un + 8 * D + 200 < cLine)
    (h : ∀ a1 a2 a3 a4 a5 a6 h' tk', Fr h₀ L h' m → News h₀ L h' (Y a1 a2 a3 a4 a5 a6) → P a1 a2 a3 a4 a5 a6 → Q (X a1 a2 a3 a4 a5 a6) { s with heap := h', toks := tk' }) :
    wpAny (model PySem.Challenge.rw_qz0105_01.row.prog w) (ktrTop dp un gd cn cs L a ccd cl outer) (call (.ref f) vs) Q E s := S.use B F X₀ N T hk hd hu fun _ _ h' tk' F N p => ex6 p fun a1 a2 a3 a4 a5 a6 p => an3 p fun e1 e2 q => by subst e1; subst e2; exact h a1 a2 a3 a4 a5 a6 h' tk' F N q
theorem Spec.use7 {w : World} {f : Addr} {vs : List Value} {news : Led} {D : Nat} {α1 α2 α3 α4 α5 α6 α7 : Type} {X : α1 → α2 → α3 → α4 → α5 → α6 → α7 → Value} {Y : α1 → α2 → α3 → α4 → α5 → α6 → α7 → Led} {P : α1 → α2 → α3 → α4 → α5 → α6 → α7 → Prop} (S : Spec w f vs news D (fun r n => ∃ a1 a2 a3 a4 a5 a6 a7, r = X a1 a2 a3 a4 a5 a6 a7 ∧ n = Y a1 a2 a3 a4 a5 a6 a7 ∧ P a1 a2 a3 a4 a5 a6 a7))
    {dp un : Nat} {gd : Option (List Code)} {cn : Str} {cs : Scope} {a : Addr} {ccd : Value} {cl : List (Str × Addr)} {outer : List Env} {A₀ : Around} {base h₀ : Heap} {L : Addr} {m : Str → Option Value} {s : Shared}
    {mean : ExcName → Option Value} {mg mb : Str → Option Value} {Q E : Value → Shared → Prop}
    (B : Below A₀ base outer h₀) (F : Fr h₀ L s.heap m) (X₀ : (Mine.k.heap_1 w.params).In h₀) (N : News h₀ L s.heap news) (T : Top Mine.k.view_1 LO mean mg mb h₀) (hk : cs.kind = .function) (hd : dp + D < recursionLimit) (hu : un + 8 * D + 200 < cLine)
    (h : ∀ a1 a2 a3 a4 a5 a6 a7 h' tk', Fr h₀ L h' m → News h₀ L h' (Y a1 a2 a3 a4 a5 a6 a7) → P a1 a2 a3 a4 a5 a6 a7 → Q (X a1 a2 a3 a4 a5 a6 a7) { s with heap := h', toks := tk' }) :
    wpAny (model PySem.Challenge.rw_qz0105_01.row.prog w) (ktrTop dp un gd cn cs L a ccd cl outer) (call (.ref f) vs) Q E s := S.use B F X₀ N T hk hd hu fun _ _ h' tk' F N p => ex7 p fun a1 a2 a3 a4 a5 a6 a7 p => an3 p fun e1 e2 q => by subst e1; subst e2; exact h a1 a2 a3 a4 a5 a6 a7 h' tk' F N q
theorem Spec.use8 {w : World} {f : Addr} {vs : List Value} {news : Led} {D : Nat} {α1 α2 α3 α4 α5 α6 α7 α8 : Type} {X : α1 → α2 → α3 → α4 → α5 → α6 → α7 → α8 → Value} {Y : α1 → α2 → α3 → α4 → α5 → α6 → α7 → α8 → Led} {P : α1 → α2 → α3 → α4 → α5 → α6 → α7 → α8 → Prop} (S : Spec w f vs news D (fun r n => ∃ a1 a2 a3 a4 a5 a6 a7 a8, r = X a1 a2 a3 a4 a5 a6 a7 a8 ∧ n = Y a1 a2 a3 a4 a5 a6 a7 a8 ∧ P a1 a2 a3 a4 a5 a6 a7 a8))
    {dp un : Nat} {gd : Option (List Code)} {cn : Str} {cs : Scope} {a : Addr} {ccd : Value} {cl : List (Str × Addr)} {outer : List Env} {A₀ : Around} {base h₀ : Heap} {L : Addr} {m : Str → Option Value} {s : Shared}
    {mean : ExcName → Option Value} {mg mb : Str → Option Value} {Q E : Value → Shared → Prop}
    (B : Below A₀ base outer h₀) (F : Fr h₀ L s.heap m) (X₀ : (Mine.k.heap_1 w.params).In h₀) (N : News h₀ L s.heap news) (T : Top Mine.k.view_1 LO mean mg mb h₀) (hk : cs.kind = .function) (hd : dp + D < recursionLimit) (hu : un + 8 * D + 200 < cLine)
    (h : ∀ a1 a2 a3 a4 a5 a6 a7 a8 h' tk', Fr h₀ L h' m → News h₀ L h' (Y a1 a2 a3 a4 a5 a6 a7 a8) → P a1 a2 a3 a4 a5 a6 a7 a8 → Q (X a1 a2 a3 a4 a5 a6 a7 a8) { s with heap := h', toks := tk' }) :
    wpAny (model PySem.Challenge.rw_qz0105_01.row.prog w) (ktrTop dp un gd cn cs L a ccd cl outer) (call (.ref f) vs) Q E s := S.use B F X₀ N T hk hd hu fun _ _ h' tk' F N p => ex8 p fun a1 a2 a3 a4 a5 a6 a7 a8 p => an3 p fun e1 e2 q => by subst e1; subst e2; exact h a1 a2 a3 a4 a5 a6 a7 a8 h' tk' F N q
theorem Spec.use10 {w : World} {f : Addr} {vs : List Value} {news : Led} {D : Nat} {α1 α2 α3 α4 α5 α6 α7 α8 α9 α10 : Type} {X : α1 → α2 → α3 → α4 → α5 → α6 → α7 → α8 → α9 → α10 → Value} {Y : α1 → α2 → α3 → α4 → α5 → α6 → α7 → α8 → α9 → α10 → Led} {P : α1 → α2 → α3 → α4 → α5 → α6 → α7 → α8 → α9 → α10 → Prop} (S : Spec w f vs news D (fun r n => ∃ a1 a2 a3 a4 a5 a6 a7 a8 a9 a10, r = X a1 a2 a3 a4 a5 a6 a7 a8 a9 a10 ∧ n = Y a1 a2 a3 a4 a5 a6 a7 a8 a9 a10 ∧ P a1 a2 a3 a4 a5 a6 a7 a8 a9 a10))
    {dp un : Nat} {gd : Option (List Code)} {cn : Str} {cs : Scope} {a : Addr} {ccd : Value} {cl : List (Str × Addr)} {outer : List Env} {A₀ : Around} {base h₀ : Heap} {L : Addr} {m : Str → Option Value} {s : Shared}
    {mean : ExcName → Option Value} {mg mb : Str → Option Value} {Q E : Value → Shared → Prop}
    (B : Below A₀ base outer h₀) (F : Fr h₀ L s.heap m) (X₀ : (Mine.k.heap_1 w.params).In h₀) (N : News h₀ L s.heap news) (T : Top Mine.k.view_1 LO mean mg mb h₀) (hk : cs.kind = .function) (hd : dp + D < recursionLimit) (hu : un + 8 * D + 200 < cLine)
    (h : ∀ a1 a2 a3 a4 a5 a6 a7 a8 a9 a10 h' tk', Fr h₀ L h' m → News h₀ L h' (Y a1 a2 a3 a4 a5 a6 a7 a8 a9 a10) → P a1 a2 a3 a4 a5 a6 a7 a8 a9 a10 → Q (X a1 a2 a3 a4 a5 a6 a7 a8 a9 a10) { s with heap := h', toks := tk' }) :
    wpAny (model PySem.Challenge.rw_qz0105_01.row.prog w) (ktrTop dp un gd cn cs L a ccd cl outer) (call (.ref f) vs) Q E s := S.use B F X₀ N T hk hd hu fun _ _ h' tk' F N p => ex10 p fun a1 a2 a3 a4 a5 a6 a7 a8 a9 a10 p => an3 p fun e1 e2 q => by subst e1; subst e2; exact h a1 a2 a3 a4 a5 a6 a7 a8 a9 a10 h' tk' F N q
theorem Spec.use11 {w : World} {f : Addr} {vs : List Value} {news : Led} {D : Nat} {α1 α2 α3 α4 α5 α6 α7 α8 α9 α10 α11 : Type} {X : α1 → α2 → α3 → α4 → α5 → α6 → α7 → α8 → α9 → α10 → α11 → Value} {Y : α1 → α2 → α3 → α4 → α5 → α6 → α7 → α8 → α9 → α10 → α11 → Led} {P : α1 → α2 → α3 → α4 → α5 → α6 → α7 → α8 → α9 → α10 → α11 → Prop} (S : Spec w f vs news D (fun r n => ∃ a1 a2 a3 a4 a5 a6 a7 a8 a9 a10 a11, r = X a1 a2 a3 a4 a5 a6 a7 a8 a9 a10 a11 ∧ n = Y a1 a2 a3 a4 a5 a6 a7 a8 a9 a10 a11 ∧ P a1 a2 a3 a4 a5 a6 a7 a8 a9 a10 a11))
    {dp un : Nat} {gd : Option (List Code)} {cn : Str} {cs : Scope} {a : Addr} {ccd : Value} {cl : List (Str × Addr)} {outer : List Env} {A₀ : Around} {base h₀ : Heap} {L : Addr} {m : Str → Option Value} {s : Shared}
    {mean : ExcName → Option Value} {mg mb : Str → Option Value} {Q E : Value → Shared → Prop}
    (B : Below A₀ base outer h₀) (F : Fr h₀ L s.heap m) (X₀ : (Mine.k.heap_1 w.params).In h₀) (N : News h₀ L s.heap news) (T : Top Mine.k.view_1 LO mean mg mb h₀) (hk : cs.kind = .function) (hd : dp + D < recursionLimit) (hu : un + 8 * D + 200 < cLine)
    (h : ∀ a1 a2 a3 a4 a5 a6 a7 a8 a9 a10 a11 h' tk', Fr h₀ L h' m → News h₀ L h' (Y a1 a2 a3 a4 a5 a6 a7 a8 a9 a10 a11) → P a1 a2 a3 a4 a5 a6 a7 a8 a9 a10 a11 → Q (X a1 a2 a3 a4 a5 a6 a7 a8 a9 a10 a11) { s with heap := h', toks := tk' }) :
    wpAny (model PySem.Challenge.rw_qz0105_01.row.prog w) (ktrTop dp un gd cn cs L a ccd cl outer) (call (.ref f) vs) Q E s := S.use B F X₀ N T hk hd hu fun _ _ h' tk' F N p => ex11 p fun a1 a2 a3 a4 a5 a6 a7 a8 a9 a10 a11 p => an3 p fun e1 e2 q => by subst e1; subst e2; exact h a1 a2 a3 a4 a5 a6 a7 a8 a9 a10 a11 h' tk' F N q
theorem Spec.use15 {w : World} {f : Addr} {vs : List Value} {news : Led} {D : Nat} {α1 α2 α3 α4 α5 α6 α7 α8 α9 α10 α11 α12 α13 α14 α15 : Type} {X : α1 → α2 → α3 → α4 → α5 → α6 → α7 → α8 → α9 → α10 → α11 → α12 → α13 → α14 → α15 → Value} {Y : α1 → α2 → α3 → α4 → α5 → α6 → α7 → α8 → α9 → α10 → α11 → α12 → α13 → α14 → α15 → Led} {P : α1 → α2 → α3 → α4 → α5 → α6 → α7 → α8 → α9 → α10 → α11 → α12 → α13 → α14 → α15 → Prop} (S : Spec w f vs news D (fun r n => ∃ a1 a2 a3 a4 a5 a6 a7 a8 a9 a10 a11 a12 a13 a14 a15, r = X a1 a2 a3 a4 a5 a6 a7 a8 a9 a10 a11 a12 a13 a14 a15 ∧ n = Y a1 a2 a3 a4 a5 a6 a7 a8 a9 a10 a11 a12 a13 a14 a15 ∧ P a1 a2 a3 a4 a5 a6 a7 a8 a9 a10 a11 a12 a13 a14 a15))
    {dp un : Nat} {gd : Option (List Code)} {cn : Str} {cs : Scope} {a : Addr} {ccd : Value} {cl : List (Str × Addr)} {outer : List Env} {A₀ : Around} {base h₀ : Heap} {L : Addr} {m : Str → Option Value} {s : Shared}
    {mean : ExcName → Option Value} {mg mb : Str → Option Value} {Q E : Value → Shared → Prop}
    (B : Below A₀ base outer h₀) (F : Fr h₀ L s.heap m) (X₀ : (Mine.k.heap_1 w.params).In h₀) (N : News h₀ L s.heap news) (T : Top Mine.k.view_1 LO mean mg mb h₀) (hk : cs.kind = .function) (hd : dp + D < recursionLimit) (hu : un + 8 * D + 200 < cLine)
    (h : ∀ a1 a2 a3 a4 a5 a6 a7 a8 a9 a10 a11 a12 a13 a14 a15 h' tk', Fr h₀ L h' m → News h₀ L h' (Y a1 a2 a3 a4 a5 a6 a7 a8 a9 a10 a11 a12 a13 a14 a15) → P a1 a2 a3 a4 a5 a6 a7 a8 a9 a10 a11 a12 a13 a14 a15 → Q (X a1 a2 a3 a4 a5 a6 a7 a8 a9 a10 a11 a12 a13 a14 a15) { s with heap := h', toks := tk' }) :
    wpAny (model PySem.Challenge.rw_qz0105_01.row.prog w) (ktrTop dp un gd cn cs L a ccd cl outer) (call (.ref f) vs) Q E s := S.use B F X₀ N T hk hd hu fun _ _ h' tk' F N p => ex15 p fun a1 a2 a3 a4 a5 a6 a7 a8 a9 a10 a11 a12 a13 a14 a15 p => an3 p fun e1 e2 q => by subst e1; subst e2; exact h a1 a2 a3 a4 a5 a6 a7 a8 a9 a10 a11 a12 a13 a14 a15 h' tk' F N q
local macro_rules | `(tactic| k_all) => `(tactic| k_extra "all")
local macro_rules | `(tactic| k_get) => `(tactic| k_extra "get")
local macro_rules | `(tactic| k_mem) => `(tactic| k_extra "mem")
local macro_rules | `(tactic| kst_facts) => `(tactic| k_extra "facts")
local macro_rules | `(tactic| ktr_room) => `(tactic| k_extra "kroom")
local macro_rules | `(tactic| ktr_units) => `(tactic| k_extra "kunits")
local macro_rules | `(tactic| omega) => `(tactic| k_extra "omega")
local macro_rules | `(tactic| size_fits) => `(tactic| k_extra "size")
local macro_rules | `(tactic| walk_at "call builtin:len") => `(tactic| k_extra "m len")
theorem kw1_all : True := by
  k_with "all" => with_reducible assumption
  k_with "all" => exact allLt_ne (by with_reducible assumption)
  k_with "mem" => ((repeat (first | with_reducible exact List.mem_cons_self | with_reducible assumption | (with_reducible refine List.mem_append_left _ ?_; with_reducible assumption) | with_reducible refine List.mem_cons_of_mem _ ?_ | with_reducible refine List.mem_append_right _ ?_)); done)
  k_with "get" => with_reducible assumption
  k_with "m len" => (k_here; (with_reducible show wpAny _ _ (call (Value.builtin "len") [Value.ref _]) _ _ _); k_dflt (refine' len_led ?k1 ?k2 ?k3 ?_; (case k1 => k_asm); (case k2 => k_mem); (case k3 => first | omega | decide | (simp only [List.length_cons, List.length_nil]; omega)); k_whole))
  trivial
local macro_rules | `(tactic| k_lt $h:ident) => `(tactic| (revert $h:ident; k_extra "lt"; intro $h:ident))
theorem kw2_all : True := by
  k_with "lt" => (intro hz9; (first | with_reducible (first | (refine' al16 hz9 ?_; clear hz9; intro _ _ _ _ _ _ _ _ _ _ _ _ _ _ _ _ hz9) | (refine' al12 hz9 ?_; clear hz9; intro _ _ _ _ _ _ _ _ _ _ _ _ hz9) | (refine' al10 hz9 ?_; clear hz9; intro _ _ _ _ _ _ _ _ _ _ hz9) | (refine' al8 hz9 ?_; clear hz9; intro _ _ _ _ _ _ _ _ hz9) | (refine' al6 hz9 ?_; clear hz9; intro _ _ _ _ _ _ hz9) | (refine' al5 hz9 ?_; clear hz9; intro _ _ _ _ _ hz9) | (refine' al4 hz9 ?_; clear hz9; intro _ _ _ _ hz9) | (refine' al3 hz9 ?_; clear hz9; intro _ _ _ hz9) | (refine' al2 hz9 ?_; clear hz9; intro _ _ hz9) | (refine' al1 hz9 ?_; clear hz9; intro _ hz9)) | replace hz9 := allLt_of hz9); (repeat (with_reducible (first | (refine' al16 (allLt_mem hz9) ?_; clear hz9; intro _ _ _ _ _ _ _ _ _ _ _ _ _ _ _ _ hz9) | (refine' al12 (allLt_mem hz9) ?_; clear hz9; intro _ _ _ _ _ _ _ _ _ _ _ _ hz9) | (refine' al10 (allLt_mem hz9) ?_; clear hz9; intro _ _ _ _ _ _ _ _ _ _ hz9) | (refine' al8 (allLt_mem hz9) ?_; clear hz9; intro _ _ _ _ _ _ _ _ hz9) | (refine' al6 (allLt_mem hz9) ?_; clear hz9; intro _ _ _ _ _ _ hz9) | (refine' al5 (allLt_mem hz9) ?_; clear hz9; intro _ _ _ _ _ hz9) | (refine' al4 (allLt_mem hz9) ?_; clear hz9; intro _ _ _ _ hz9) | (refine' al3 (allLt_mem hz9) ?_; clear hz9; intro _ _ _ hz9) | (refine' al2 (allLt_mem hz9) ?_; clear hz9; intro _ _ hz9) | (refine' al1 (allLt_mem hz9) ?_; clear hz9; intro _ hz9)))); revert hz9)
  k_with "facts" => first | exact OptsAre.nil | with_reducible assumption | exact strs_opts (by with_reducible assumption) | exact OptsAre.cons (o := some _) ⟨_, rfl⟩ (by kst_facts) | exact OptsAre.cons (o := none) rfl (by kst_facts)
  trivial
local macro_rules | `(tactic| k_room) => `(tactic| ktr_room)
local macro_rules | `(tactic| k_units) => `(tactic| ktr_units)
theorem kw3_all : True := by
  k_with "size" => (simp only [List.size_toArray, Array.size_push, PySem.sizeLine_eq]; omega)
  k_with "m def0" => ((case kA => exact rfl); (case kF => exact rfl); (case kK => assumption); (case k1 => k_asm); (case k2 => k_asm); (case k3 => k_asm); (case k4 => k_asm); (case k5 => k_asm); (case k6 => k_is); (case k7 => k_is); (case k8 => ktr_room); (case k9 => first | exact BindsTo.of_eq rfl | exact binds_K (by k_in) rfl (by k_is) rfl rfl rfl); (case c5 => decide); (case kB => exact locs rfl); (case c2 => exact rfl); (case c3 => exact rfl); (case c4 => exact rfl); k_whole)
  k_with "fA" => focus (refine' (let A9 : PySem.Around := _; ?_); any_goals (change wpAny _ A9 _ _ _ _))
  k_with "m fold" => ((try dsimp only); (try k_fold); k_extra "fA")
  trivial
local macro_rules | `(tactic| k_extra "m def") => `(tactic| (k_extra "m def0"; intro g' L' h' FG' F' N' B' X' T'; refine wpAny_tok ?_; intro tk0; k_extra "m fold"))
theorem kw4_all : True := by
  k_with "m in" => (with_reducible first | ((repeat (first | exact in_hd | refine in_tl ?_ | refine in_rt ?_)); done) | k_mem)
  k_with "m sub" => (with_reducible ((repeat' (first | exact sb_nil | (refine sb_cons ?h1 ?_; (case h1 => k_extra "m in")) | exact sb_rfl | refine sb_app ?_ ?_ | exact sb_lt sb_rfl | exact sb_lt (sb_lt sb_rfl) | exact sb_lt (sb_rt sb_rfl) | assumption | refine sb_tl ?_ | refine sb_rt ?_)); all_goals (intro p9 hp9; first | ((repeat (first | exact hp9 | refine in_tl ?_ | refine in_rt ?_)); done) | k_mem)))
  k_with "m std" => ((case k1 => k_asm); (case k2 => k_asm); (case k3 => k_asm); (case k4 => k_asm); (case k5 => k_asm); (case kK => first | exact rfl | assumption))
  k_with "m end" => ((case kd => ktr_room); (case ku => ktr_units))
  k_with "m P" => ((case P => repeat (first | exact Pull.head | apply Pull.tail)))
  k_with "m P2" => ((case P2 => repeat (first | exact Pull.head | apply Pull.tail)))
  k_with "m P3" => ((case P3 => repeat (first | exact Pull.head | apply Pull.tail)))
  k_with "m fin" => ((try k_sweep); (try dsimp only); (try k_fold))
  k_with "m rfl" => (with_reducible_and_instances exact rfl)
  k_with "omega" => (with_reducible first | exact Nat.ne_of_lt (by assumption) | exact Nat.ne_of_gt (by assumption) | exact Ne.symm (by assumption) | exact le_lit (by assumption) (by k_extra "m rfl") | exact rm6 (by assumption) (by k_extra "m rfl") | exact rm5 (by assumption) (by k_extra "m rfl") | exact rm3 (by assumption) (by k_extra "m rfl"))
  k_with "kroom" => first | (with_reducible first | exact kd3 (by assumption) (by k_extra "m rfl") | exact kd2 (by assumption) (by k_extra "m rfl") | exact kd1 (by assumption) | exact ke3 (by assumption) (by k_extra "m rfl") | exact ke2 (by assumption) (by k_extra "m rfl") | exact ke1 (by assumption) (by k_extra "m rfl")) | (simp only [A9]; ktr_room)
  k_with "kunits" => first | (with_reducible first | exact ku4 (by assumption) (by k_extra "m rfl") | exact ku3 (by assumption) (by k_extra "m rfl") | exact ku2 (by assumption) (by k_extra "m rfl") | exact kf4 (by assumption) (by k_extra "m rfl") | exact kf3 (by assumption) (by k_extra "m rfl") | exact kf2 (by assumption) (by k_extra "m rfl")) | (simp only [A9]; ktr_units)
  k_with "t subr" => (with_reducible (repeat' (first | exact sb_nil | (refine sb_cons ?h1 ?_; (case h1 => k_extra "t inr")) | exact sb_rfl | (refine sb_snoc ?_ ?h2; (case h2 => k_extra "t inr")) | (refine sb_mid ?_ ?h2 ?_; (case h2 => k_extra "t inr")) | refine sb_app ?_ ?_ | exact sb_lt sb_rfl | exact sb_r1 | exact sb_r2 | refine sb_tl ?_ | refine sb_rt ?_)); done)
  k_with "t inr" => ((repeat (first | exact in_hd | exact in_mid | refine in_tl ?_ | refine in_rt ?_)); done)
  k_with "r macros_1" => with_reducible ((with_reducible show wpAny _ _ (subscriptTail _ _ (Value.ref _) (Value.int _ _)) _ _ _); k_here; k_dflt (refine' item_led ?k1 ?k2 ?k5 ?k3 ?k4 ?_ ?k6; (case k1 => k_asm); (case k2 => k_mem); (case k5 => first | assumption | rfl); (case k3 => omega); (case k4 => omega); (case k6 => with_unfolding_all rfl); k_whole))
  k_with "r macros_3" => with_reducible ((with_reducible show wpAny _ _ (getMethod (Value.ref _) (Str.ofString "get") _) _ _ _); k_here; k_dflt (refine' pat_method ?k2 ?k3 ?k4 ?k5 ?_; (case k2 => k_asm); (case k3 => k_asm); (case k4 => k_asm); (case k5 => k_mem)))
  k_with "r macros_2" => with_reducible ((with_reducible show wpAny _ _ (call (Value.builtin "dict.get") [Value.ref _, Value.ref 213]) _ _ _); k_here; k_dflt (refine' pat_get ?k1 ?k2 ?k3 ?k4 ?k5 ?k6 ?_; (case k1 => ktr_units); (case k2 => k_asm); (case k3 => k_asm); (case k4 => k_asm); (case k5 => k_mem); (case k6 => k_asm)))
  k_with "r lastp_1" => with_reducible ((with_reducible show wpAny _ _ (call (Value.ref 220) _) _ _ _); k_here; k_dflt (refine' Spec.use0e (last_pattern_spec ?a1 ?a2 ?a3 ?a4 ?a5) ?k1 ?k2 ?k3 ?k4 ?k5 ?kK ?kd ?ku ?_; k_extra "m std"; (case a1 => k_mem); (case a2 => k_mem); (case a3 => k_get); (case a4 => k_asm); (case a5 => k_mem); k_extra "m end"); intro zh9 ztk9 zF9 zN9; k_extra "m fin")
  k_with "r comps_2" => with_reducible ((with_reducible show wpAny _ _ (exec (Stmt.Assign _ (Expr.ListComp ..) ..) _) _ _ _); k_here; k_dflt (refine comp_assign (_F₀ := by k_asm) (by rfl) (by with_unfolding_all rfl) (by rfl) (by decide) (by rfl) (by decide) (by rfl) (by rfl) (by rfl) ?_ (by intro _; rfl)))
  k_with "r macros_4" => with_reducible ((with_reducible show wpAny _ _ (subscriptTail _ _ (Value.ref _) (Value.str _ _)) _ _ _); k_here; k_dflt (refine' kda_item (knd := PySem.strKind _ _) ?k1 ?k2 ?k3 (strKind_is _ _ _ _) ?k4 ?_ ?k5 ?k6; (case k1 => k_asm); (case k2 => k_mem); (case k3 => k_asm); (case k4 => assumption); (case k5 => with_unfolding_all rfl); (case k6 => (intro _; with_unfolding_all rfl))))
  k_with "r gtext_1" => with_reducible ((with_reducible show wpAny _ _ (call (Value.ref 333) [Value.ref _, Value.int _ _]) _ _ _); k_here; k_dflt (refine' Spec.use (group_text_spec ?a0 ?a1 ?a2 ?a3 ?a4) ?k1 ?k2 ?k3 ?k4 ?k5 ?kK ?kd ?ku ?_; k_extra "m std"; (case a1 => k_mem); (case a0 => assumption); (case a2 => exact GRep.mono (by assumption) (by (intro zp9 zhp9; repeat (first | exact zhp9 | apply List.Mem.tail)))); (case a3 => assumption); (case a4 => assumption); k_extra "m end"); intro zr9 zn9 zh9 ztk9 zF9 zN9 zp9; obtain ⟨zp9, ze9'⟩ := zp9; subst ze9'; k_extra "m fin")
  k_with "r comps_1" => with_reducible ((with_reducible show wpAny _ _ (eval (Expr.Name _ _) (compEnvC _ _ _ _)) _ _ _); k_here; k_dflt (refine' ld_cellC ?k1 ?k2 ?k3 ?k4 ?_ ?k5 ?k6 ?k7; (case k5 => rfl); (case k6 => rfl); (case k7 => decide); (case k1 => k_asm); (case k2 => rfl); (case k3 => k_mem); (case k4 => assumption)))
  k_with "r macros_6" => with_reducible ((with_reducible show wpAny _ _ (compareOp CmpOp.NotEq (Value.ref _) (Value.ref _)) _ _ _); k_here; k_dflt (refine' ne_opts ?k1 ?k2 ?k3 ?k4 ?k5 ?o1 ?o2 ?k6 ?_; (case k1 => k_asm); (case k2 => k_mem); (case k3 => k_mem); (case k4 => kst_facts); (case k5 => kst_facts); (case o1 => first | with_reducible assumption | exact optsOk_nil | exact optsOk_map (by with_reducible assumption)); (case o2 => first | with_reducible assumption | exact optsOk_nil | exact optsOk_map (by with_reducible assumption)); (case k6 => ktr_units)); (try simp only [List.map_cons, List.map_nil, reduceCtorEq, decide_false, decide_true, Bool.not_false, Bool.not_true]))
  k_with "r macros_5" => ((with_reducible show wpAny _ _ (setItem (Value.ref _) (Value.str _ _) _) _ _ _); k_here; k_dflt (refine' kda_set (knd := PySem.strKind _ _) ?qF ?qN ?qU ?qd (strKind_is _ _ _ _) ?qz ?_; (case qF => k_asm); (case qN => k_asm); (case qU => k_updF); (case qd => k_asm); (case qz => rw [sizeLine_eq]; omega)); intro zh' zo' zF' zN' zhd'; (try dsimp only at zN'))
  k_with "r rules_1" => with_reducible ((with_reducible show wpAny _ _ (call (Value.type "list") [Value.ref _]) _ _ _); k_here; k_dflt (refine' list_keys_led ?k0 ?k1 ?k2 ?k3 ?k4 ?k5 ?k6 ?_; (case k0 => rfl); (case k1 => k_asm); (case k2 => k_asm); (case k3 => k_mem); (case k4 => k_asm); (case k5 => k_asm); (case k6 => omega)); intro zB9 zc9 zh9 ztk9 zvs9 zhs9 zF9 zN9 zl9; (try k_lt zl9); k_extra "m fin")
  k_with "r named_1" => with_reducible ((with_reducible show wpAny _ _ (call (Value.ref 377) _) _ _ _); k_here; k_dflt (refine' Spec.use3 (named_texts_spec ?a1) ?k1 ?k2 ?k3 ?k4 ?k5 ?kK ?kd ?ku ?_; k_extra "m std"; (case a1 => exact CurRep.mono (by assumption) (by (intro zp9 zhp9; repeat (first | exact zhp9 | apply List.Mem.tail)))); k_extra "m end"); intro zfd9 zod9 zkv9 zh9 ztk9 zF9 zN9 zp9; refine' an4 zp9 ?_; clear zp9; intro zlo9 zhd9 zhp9 zhlt9; (have zhln9 := PairsAre.len zhp9); (try k_lt zhlt9); k_extra "m fin")
  k_with "r rules_2" => with_reducible ((with_reducible show wpAny _ _ (compareOp CmpOp.In (Value.str _ _) (Value.ref _)) _ _ _); k_here; k_dflt (refine' kda_in (knd := PySem.strKind _ _) ?k1 ?k2 ?k3 ?k4 (strKind_is _ _ _ _) _ rfl ?_; (case k1 => k_asm); (case k2 => k_mem); (case k3 => k_asm); (case k4 => k_asm)))
  k_with "r keysnow_1" => with_reducible ((with_reducible show wpAny _ _ (call (Value.ref 475) _) _ _ _); k_here; k_dflt (refine' Spec.use3 (keys_now_spec ?a1 ?a2 ?a3) ?k1 ?k2 ?k3 ?k4 ?k5 ?kK ?kd ?ku ?_; k_extra "m std"; (case a2 => k_mem); (case a3 => k_mem); (case a1 => exact CurRep.mono (by assumption) (by (intro zp9 zhp9; repeat (first | exact zhp9 | apply List.Mem.tail)))); k_extra "m end"); intro zld9 zvs9 zc9 zh9 ztk9 zF9 zN9 zp9; refine' an2 zp9 ?_; clear zp9; intro zhs9 zhlt9; (have zhln9 := strs_len zhs9); (try simp only [List.length_map] at zhln9); (try k_lt zhlt9); k_extra "m fin")
  k_with "r rules_4" => with_reducible ((with_reducible show wpAny _ _ (call (Value.builtin "dict.get") [Value.ref _, Value.str _ _]) _ _ _); k_here; k_dflt (refine' kdg_get1 (knd := PySem.strKind _ _) ?k1 ?k2 ?k3 ?k4 (strKind_is _ _ _ _) _ rfl ?_; (case k1 => k_asm); (case k2 => k_mem); (case k3 => k_asm); (case k4 => k_asm)))
  k_with "r meths_3" => with_reducible ((with_reducible show wpAny _ _ (call (Value.ref 398) _) _ _ _); k_here; k_dflt (refine' Spec.use (get_spec ?a1 ?a2 ?a3) ?k1 ?k2 ?k3 ?k4 ?k5 ?kK ?kd ?ku ?_; k_extra "m std"; (case a2 => k_mem); (case a3 => k_mem); (case a1 => exact CurRep.mono (by assumption) (by (intro zp9 zhp9; k_mem))); k_extra "m end"); intro zr9 zn9 zh9 ztk9 zF9 zN9 zp9; obtain ⟨zp9, ze9'⟩ := zp9; subst ze9'; k_extra "m fin")
  k_with "r rules_6" => with_reducible ((with_reducible show wpAny _ _ (subscriptTail _ _ (Value.ref _) (Value.int _ _)) _ _ _); k_here; k_dflt (refine' item_strs_led ?k1 ?k2 ?k5 ?k3 ?k4 ?_ ?k6; (case k1 => k_asm); (case k2 => k_mem); (case k5 => with_reducible assumption); (case k3 => omega); (case k4 => (first | omega | ((try simp only [List.length_map] at *); omega))); (case k6 => with_unfolding_all rfl)); intro _)
  k_with "r rules_5" => with_reducible ((with_reducible show wpAny _ _ (compareOp CmpOp.In (Value.str _ _) (Value.ref _)) _ _ _); k_here; k_dflt (refine' in_strs_yes ?k1 ?k2 ?k3 ?k4 ?_; (case k1 => k_asm); (case k2 => k_mem); (case k3 => with_reducible assumption); (case k4 => with_reducible assumption)))
  k_with "r rules_3" => with_reducible ((with_reducible show wpAny _ _ (call (Value.builtin "list.index") _) _ _ _); k_here; k_dflt (refine' index_strs_led ?k1 ?k2 ?k3 ?k4 ?k5 ?k6 ?_; (case k1 => k_asm); (case k2 => k_mem); (case k3 => with_reducible assumption); (case k4 => omega); (case k5 => with_reducible assumption); (case k6 => with_reducible assumption)))
  k_with "r macros_7" => with_reducible ((with_reducible show wpAny _ _ (exec (Stmt.For (Expr.Name ..) (Expr.Call ..) ..) _) _ _ _); k_here; (rename Fr _ _ _ _ => zlF'); (with_unfolding_all refine' For_invVF zlF' ?k1 ?k2 ?_; (case k1 => exact rfl); (case k2 => exact rfl); k_whole))
  k_with "r nextkey_1" => with_reducible ((with_reducible show wpAny _ _ (call (Value.ref 482) _) _ _ _); k_here; k_dflt (refine' Spec.use3 (keys_spec ?a1 (mem_up ?m1 ?m2) ?a3) ?k1 ?k2 ?k3 (News.pull ?P ?k4) ?k5 ?kK ?kd ?ku ?_; (case m1 => assumption); k_extra "m std"; k_extra "m P"; (case m2 => (intro zp9 zhp9; k_mem)); (case a1 => exact CurRep.mono (by assumption) (by (intro zp9 zhp9; k_mem))); (case a3 => k_all); k_extra "m end"); intro zld9 zvs9 zc9 zh9 ztk9 zF9 zN9 zp9; refine' an3 zp9 ?_; clear zp9; intro zhs9 zhb9 zhB9; (have zhln9 := strs_len zhs9); (try simp only [List.length_map] at zhln9); (try k_lt zhB9); k_extra "m fin")
  k_with "r elem_1" => with_reducible ((with_reducible show wpAny _ _ (call (Value.ref 433) _) _ _ _); k_here; k_dflt (refine' Spec.use4 (elem_spec3 ?a1 ?a2 (HeapRep.mono ?a3 ?a4) ?a5) ?k1 ?k2 ?k3 (News.pull ?P ?k4) ?k5 ?kK ?kd ?ku ?_; (case a3 => assumption); k_extra "m std"; k_extra "m P"; (case a1 => k_mem); (case a2 => k_mem); (case a4 => (intro zp9 zhp9; k_mem)); (case a5 => k_all); k_extra "m end"); intro zsc9 znew9 ztk9' zb9 zh9 ztk9 zF9 zN9 zp9; refine' an3 zp9 ?_; clear zp9; intro zhS9 zz91 zhA9; refine' an2 zz91 ?_; clear zz91; intro zhb9 zhB9; (replace zN9 := News.sink1 zN9 (by repeat (first | apply Sink.cons | exact Sink.base))); (try k_lt zhB9); k_extra "m fin")
  k_with "r exc_1" => with_reducible ((with_reducible show wpAny _ _ (exec (Stmt.Raise ..) _) _ _ _); k_here; (refine' Raise_xc (C := 370) ?k0 ?k1 ?k2 ?k3 ?_; (case k0 => k_asm); (case k1 => with_unfolding_all rfl); (case k2 => decide); (case k3 => with_unfolding_all rfl); k_whole))
  k_with "r dies_2" => with_reducible ((with_reducible show wpAny _ _ (getMethod (Value.ref _) (Str.ofString "pop") _) _ _ _); k_here; k_dflt (refine' kob_method (knd := PySem.intKind _ _) PySem.F.slot_dict_pop PySem.F.type_dict_pop ?a ?b ?c ?_; (case a => k_asm); (case b => k_mem); (case c => assumption); k_whole))
  k_with "r dies_1" => with_reducible ((with_reducible show wpAny _ _ (call (Value.builtin "dict.pop") _) _ _ _); k_here; k_dflt (refine' pop_none ?k1 ?k2 ?k3 ?k4 ?_; (case k1 => k_asm); (case k2 => k_mem); (case k3 => assumption); (case k4 => assumption); k_whole))
  k_with "r die_2" => with_reducible ((with_reducible show wpAny _ _ (leaving _ _) _ _ _); k_here; (refine' leave_raiseD ?k1 ?k2 ?k3 ?k4 ?_ rfl; (case k1 => assumption); (case k2 => assumption); (case k3 => assumption); (case k4 => assumption); k_whole; intro zh' zS' zR' zU'; (try dsimp only at zS' zR' zU' ⊢)))
  k_with "r die_1" => with_reducible ((with_reducible show wpAny _ _ (call (Value.ref 370) _) _ _ _); k_here; k_dflt (refine' Spec.use die_spec ?k1 ?k2 ?k3 ?k4 ?k5 ?kK ?kd ?ku ?_; k_extra "m std"; k_extra "m end"); intro zr9 zn9 zh9 ztk9 zF9 zN9 zp9; refine' ex4 zp9 ?_; clear zp9; intro ze9 ztt9 zd9 zvs9 zp9; refine' an3 zp9 ?_; clear zp9; intro ze9a ze9b zhne9; subst ze9a; subst ze9b; (with_unfolding_all refine ⟨_, _, _, rfl, (zN9 _ (.head _)).1, Frag.In.keeps ?kX (Fr.keep zF9), ?_⟩; (case kX => k_asm); (try k_sweep); (try dsimp only)))
  k_with "r pairs_2" => with_reducible ((with_reducible show wpAny _ _ (exec (Stmt.For (Expr.Name ..) (Expr.Name ..) ..) _) _ _ _); k_here; (rename Fr _ _ _ _ => zlF'); (with_unfolding_all refine' For_invVF zlF' ?k1 ?k2 ?_; (case k1 => exact rfl); (case k2 => exact rfl); k_whole))
  k_with "r pairs_4" => with_reducible ((with_reducible show wpAny _ _ (subscriptTail (Expr.Name ..) (Expr.Name ..) (Value.ref _) (Value.int _ _)) _ _ _); k_here; k_dflt (refine' item_led ?k1 ?k2 ?k5 ?k3 ?k4 ?_ ?k6; (case k1 => k_asm); (case k2 => k_mem); (case k5 => first | with_reducible assumption | exact rfl); (case k3 => omega); (case k4 => omega); (case k6 => with_unfolding_all rfl); k_whole))
  k_with "r pairs_6" => with_reducible ((with_reducible show wpAny _ _ (subscriptTail (Expr.Subscript ..) (Expr.Constant ..) (Value.ref _) (Value.int _ _)) _ _ _); k_here; k_dflt (refine' tup_led ?k1 ?k2 ?k3 ?k4 ?k5 ?k6 ?_ ?k7; (case k1 => k_asm); (case k2 => k_mem); (case k3 => decide); (case k4 => decide); (case k5 => exact rfl); (case k6 => exact rfl); (case k7 => with_unfolding_all rfl); k_whole))
  k_with "r pairs_5" => with_reducible ((with_reducible show wpAny _ _ (subscriptTail (Expr.Name ..) (Expr.Constant ..) (Value.ref _) (Value.int _ _)) _ _ _); k_here; k_dflt (refine' item_led ?k1 ?k2 ?k5 ?k3 ?k4 ?_ ?k6; (case k1 => k_asm); (case k2 => k_mem); (case k5 => first | with_reducible assumption | exact rfl); (case k3 => omega); (case k4 => omega); (case k6 => with_unfolding_all rfl); k_whole))
  k_with "r pairs_1" => with_reducible ((with_reducible show wpAny _ _ (compareOp CmpOp.NotEq (Value.ref _) (Value.ref _)) _ _ _); k_here; k_dflt (refine' ne_longer ?k1 ?k2 ?k3 ?k4 ?k5 ?_; (case k1 => k_asm); (case k2 => k_mem); (case k3 => k_mem); (case k4 => rfl); (case k5 => ktr_units); k_whole))
  k_with "r comps_3" => with_reducible ((with_reducible show wpAny _ _ (eval (Expr.ListComp ..) _) _ _ _); k_here; k_dflt (refine comp_eval (_F₀ := by k_asm) (by rfl) (by decide) (by rfl) (by decide) (by rfl) ?_ (by intro _; rfl)))
  k_with "r pairs_3" => with_reducible ((with_reducible show wpAny _ _ (call (Value.builtin "str.join") _) _ _ _); k_here; k_dflt (refine' join_led ?k1 ?k2 ?k3 ?k4 ?_; (case k1 => k_asm); (case k2 => k_mem); (case k3 => with_reducible assumption); (case k4 => with_reducible assumption)); intro _ _)
  k_with "r seesr_1" => with_reducible ((with_reducible show wpAny _ _ (call (Value.ref 752) _) _ _ _); k_here; k_dflt (refine' Spec.use5 (pairs_spec ?a1) ?k1 ?k2 ?k3 ?k4 ?k5 ?kK ?kd ?ku ?_; k_extra "m std"; (case a1 => exact MatchRep.mono (by assumption) (by (intro zp9 zhp9; k_mem))); k_extra "m end"); intro zld9 zvs9 zc9 znew9 zb9 zh9 ztk9 zF9 zN9 zp9; refine' an4 zp9 ?_; clear zp9; intro zhT9 zhB9 zhb9 zhA9; (replace zN9 := News.sink1 zN9 (by repeat (first | apply Sink.cons | exact Sink.base))); (try k_lt zhB9); k_extra "m fin")
  k_with "r pairs_7" => with_reducible ((with_reducible show wpAny _ _ (subscriptTail (Expr.Name ..) (Expr.Constant ..) (Value.ref _) (Value.int _ _)) _ _ _); k_here; k_dflt (refine' tup_led ?k1 ?k2 ?k3 ?k4 ?k5 ?k6 ?_ ?k7; (case k1 => k_asm); (case k2 => k_mem); (case k3 => decide); (case k4 => decide); (case k5 => exact rfl); (case k6 => exact rfl); (case k7 => with_unfolding_all rfl); k_whole))
  k_with "r seesr_3" => with_reducible ((with_reducible show wpAny _ _ (compareOp CmpOp.NotEq (Value.ref _) (Value.ref _)) _ _ _); k_here; k_dflt (refine' ne_same ?k1 ?k2 ?k3 ?k4 ?k5 ?o1 ?k6 ?_; (case k1 => k_asm); (case k2 => k_mem); (case k3 => k_mem); (case k4 => kst_facts); (case k5 => kst_facts); (case o1 => first | with_reducible assumption | exact optsOk_nil | exact optsOk_map (by with_reducible assumption)); (case k6 => ktr_units)))
  k_with "r meths_2" => with_reducible ((with_reducible show wpAny _ _ (call (Value.ref 496) _) _ _ _); k_here; k_dflt (refine' Spec.use (truth_spec ?a1 ?a2 ?a3) ?k1 ?k2 ?k3 ?k4 ?k5 ?kK ?kd ?ku ?_; k_extra "m std"; (case a2 => k_mem); (case a3 => k_mem); (case a1 => exact CurRep.mono (by assumption) (by (intro zp9 zhp9; k_mem))); k_extra "m end"); intro zr9 zn9 zh9 ztk9 zF9 zN9 zp9; obtain ⟨⟨zt9, ze9⟩, ze9'⟩ := zp9; subst ze9; subst ze9'; k_extra "m fin")
  k_with "r nextkey_2" => with_reducible ((with_reducible show wpAny _ _ (call (Value.ref 468) _) _ _ _); k_here; k_dflt (refine' Spec.use (next_key_first ?a1 (mem_up ?m1 ?m2) ?a3) ?k1 ?k2 ?k3 (News.pull ?P ?k4) ?k5 ?kK ?kd ?ku ?_; (case m1 => assumption); k_extra "m std"; k_extra "m P"; (case m2 => (intro zp9 zhp9; k_mem)); (case a1 => exact CurRep.mono (by assumption) (by (intro zp9 zhp9; k_mem))); (case a3 => k_all); k_extra "m end"); intro zr9 zn9 zh9 ztk9 zF9 zN9 zp9; obtain ⟨ze9', zp9⟩ := zp9; subst ze9'; k_extra "m fin")
  k_with "r nextkey_3" => with_reducible ((with_reducible show wpAny _ _ (call (Value.ref 468) _) _ _ _); k_here; k_dflt (refine' Spec.use (next_key_on ?a1 ?j1 ?j2 (mem_up ?m1 ?m2) ?a3) ?k1 ?k2 ?k3 (News.pull ?P ?k4) ?k5 ?kK ?kd ?ku ?_; (case m1 => assumption); k_extra "m std"; k_extra "m P"; (case m2 => (intro zp9 zhp9; k_mem)); (case a1 => exact CurRep.mono (by assumption) (by (intro zp9 zhp9; k_mem))); (case j1 => with_reducible assumption); (case j2 => with_reducible assumption); (case a3 => k_all); k_extra "m end"); intro zr9 zn9 zh9 ztk9 zF9 zN9 zp9; obtain ⟨ze9', zp9⟩ := zp9; subst ze9'; k_extra "m fin")
  k_with "r seesr_5" => with_reducible ((with_reducible show wpAny _ _ (subscriptTail _ (PySem.Expr.Slice _ _ _ _) (Value.ref _) (Value.ref _)) _ _ _); k_here; k_dflt (refine' slice_led ?k1 ?k2 ?k3 ?pl ?pu ?pk ?h0 ?hz ?hw ?_ ?hs ?ht; (case k1 => k_asm); (case k2 => k_asm); (case k3 => k_mem); (case pl => first | exact .none | exact .int _ _); (case pu => first | exact .none | exact .int _ _); (case pk => first | exact .none | exact .int _ _); (case hw => first | exact slice_take1 _ | exact slice_evens (by with_reducible assumption) (by with_reducible assumption) | exact slice_odds (by with_reducible assumption) (by with_reducible assumption)); (case h0 => first | decide | simp); (case hz => (first | omega | (simp only [List.length_append, List.length_cons, List.length_nil]; omega))); (case hs => with_unfolding_all rfl); (case ht => (intro _; with_unfolding_all rfl))); intro zD9 zh9 zF9 zN9 zl9; (try k_lt zl9); (try k_sweep); (try dsimp only))
  k_with "r seesr_4" => with_reducible ((with_reducible show wpAny _ _ (binaryOp Operator.Add (Value.ref _) (Value.ref _)) _ _ _); k_here; k_dflt (refine' add_led ?k1 ?k2 ?k3 ?k4 ?k5 ?_; (case k1 => k_asm); (case k2 => k_asm); (case k3 => k_mem); (case k4 => k_mem); (case k5 => first | omega | (simp only [List.length_append, List.length_cons, List.length_nil, List.length_take]; omega))); intro zD9 zh9 zF9 zN9 zl9; (try k_lt zl9); (try k_sweep); (try dsimp only))
  k_with "r seesr_2" => with_reducible ((with_reducible show wpAny _ _ (call (Value.ref 489) _) _ _ _); k_here; k_dflt (refine' Spec.use7 (items_spec ?a1 (mem_up ?m1 ?m2) (HeapRep.mono ?a3 ?a4) ?a5 ?a6 ?a7) ?k1 ?k2 ?k3 (News.pull (Pull.tail ?P2) (News.pull ?P ?k4)) ?k5 ?kK ?kd ?ku ?_; (case m1 => assumption); (case a3 => assumption); k_extra "m std"; k_extra "m P"; k_extra "m P2"; (case m2 => (intro zp9 zhp9; k_mem)); (case a4 => (intro zp9 zhp9; k_mem)); (case a1 => exact CurRep.mono (by assumption) (by (intro zp9 zhp9; k_mem))); (case a5 => k_all); (case a6 => k_all); (case a7 => assumption); k_extra "m end"); intro zol9 zvs9 zc9 znew9 k9 ztk9' zb9 zh9 ztk9 zF9 zN9 zp9; refine' an4 zp9 ?_; clear zp9; intro zhR9 zz94 zhbo9 zhA9; refine' an3 zz94 ?_; clear zz94; intro zhb9 zhb9' zhB9; (have zhrl9 := RowsAre.len zhR9); (have zhev9 := RowsAre.evens zhR9); (have zhod9 := RowsAre.odds zhR9); (have zhodl9 := ScalsAre.len zhod9); (try simp only [List.length_map] at zhrl9); (replace zN9 := News.under (News.under (News.under (News.sink (by repeat (first | apply Sink.cons | exact Sink.base))))) zN9); (try k_lt zhB9); k_extra "m fin")
  k_with "r valueof_1" => with_reducible ((with_reducible show wpAny _ _ (call (Value.ref 191) _) _ _ _); k_here; k_dflt (refine' Spec.use (value_of_spec ?a1 ?a2) ?k1 ?k2 ?k3 ?k4 ?k5 ?kK ?kd ?ku ?_; k_extra "m std"; (case a1 => exact CurRep.mono (by assumption) (by (intro zp9 zhp9; k_mem))); (case a2 => exact ScalarRep.mono (by assumption) (by (intro zp9 zhp9; k_mem))); k_extra "m end"); intro zr9 zn9 zh9 ztk9 zF9 zN9 zp9; obtain ⟨zp9, ze9'⟩ := zp9; subst ze9'; k_extra "m fin")
  k_with "r seesr_6" => with_reducible ((with_reducible show wpAny _ _ (exec (Stmt.For (Expr.Tuple ..) (Expr.Call ..) ..) _) _ _ _); k_here; (with_unfolding_all refine' For_hide ?kD ?kF ?_ (by intro _; rfl) (by passes_own); (case kD => assumption); (case kF => k_asm); k_whole))
  k_with "r seesr_9" => with_reducible ((with_reducible show wpAny _ _ (compareOp CmpOp.NotEq (Value.bool _) (Value.bool _)) _ _ _); k_here; k_dflt (refine ne_bool_same ?_))
  k_with "r seesr_8" => with_reducible ((with_reducible show wpAny _ _ (compareOp CmpOp.In (Value.str _ _) (Value.ref _)) _ _ _); k_here; k_dflt (refine' in_look ?k1 ?k2 ?k3 ?_; (case k1 => k_asm); (case k2 => k_mem); (case k3 => with_reducible assumption)))
  k_with "r seesr_11" => with_reducible ((with_reducible show wpAny _ _ (call (Value.ref 759) _) _ _ _); k_here; k_dflt (refine' SpecT.use (dies_spec (mem_up ?m1 ?m2) ?g2 ?g3 ?g4 ?g5) ?B ?F ?X ?N ?T ?XB ?TB ?D ?T0 ?kK ?kd ?ku ?_; (case F => k_asm); (case N => k_asm); (case X => k_asm); (case T => k_asm); (case B => k_asm); (case D => assumption); (case XB => assumption); (case TB => assumption); (case T0 => first | with_reducible assumption | exact KtsTurn.refl); (case kK => first | exact rfl | assumption); (case m1 => assumption); (case m2 => (intro zp9 zhp9; k_mem)); (case g2 => k_mem); (case g3 => exact CountRep.mono (by assumption) (by intro zp9 zhp9; k_mem)); (case g4 => exact ScalarRep.mono (by assumption) (by intro zp9 zhp9; k_mem)); (case g5 => assumption); k_extra "m end"); intro zr9 zn9 zh9 ztk9 zg9 zT9 zF9 zN9 zB9 zX9 zTp9 zD9 zp9; obtain ⟨ze9, ze9'⟩ := zp9; subst ze9; subst ze9'; k_extra "m fin")
  k_with "r seesr_10" => with_reducible ((with_reducible show wpAny _ _ (compareOp CmpOp.NotEq _ _) _ _ _); k_here; k_dflt (refine' ne_optstr ?ha ?hb ?_; (case ha => first | with_reducible assumption | exact (look_pairs (by assumption) _).1); (case hb => first | with_reducible assumption | exact (look_pairs (by assumption) _).1)))
  k_with "r seesr_7" => with_reducible ((with_reducible show wpAny _ _ (call (Value.type "dict") _) _ _ _); k_here; k_dflt (refine' dict_pairs_led ?hh ?F ?N ?T ?hm ?hv ?hn ?hle ?_; (case hh => rfl); (case F => k_asm); (case N => k_asm); (case T => k_asm); (case hm => k_mem); (case hv => (refine TupsAre.mono ?_ (by assumption); (intro zp9 zhp9; k_mem))); (case hn => with_reducible assumption); (case hle => with_reducible assumption)); intro zd9 zo9 zkv9 zh9 ztk9 zF9 zN9 zl9 zlo9 zhd9 zhp9; (try k_lt zl9); k_extra "m fin")
  k_with "r meths_1" => with_reducible ((with_reducible show wpAny _ _ (call (Value.ref 440) _) _ _ _); k_here; k_dflt (refine' Spec.use0e (has_key_spec ?a1 ?a2 ?a3) ?k1 ?k2 ?k3 ?k4 ?k5 ?kK ?kd ?ku ?_; k_extra "m std"; (case a2 => k_mem); (case a3 => k_mem); (case a1 => exact CurRep.mono (by assumption) (by (intro zp9 zhp9; k_mem))); k_extra "m end"); intro zh9 ztk9 zF9 zN9; k_extra "m fin")
  k_with "r setm2_2" => with_reducible ((with_reducible show wpAny _ _ (getMethod (Value.ref _) (Str.ofString "get") _) _ _ _); k_here; k_dflt (refine' patX_method ?k2 ?k3 ?k4 ?k5 ?_; (case k2 => k_asm); (case k3 => k_asm); (case k4 => k_asm); (case k5 => k_mem)))
  k_with "r setm2_1" => with_reducible ((with_reducible show wpAny _ _ (call (Value.builtin "dict.get") [Value.ref _, Value.ref 213]) _ _ _); k_here; k_dflt (refine' patX_get ?k1 ?k2 ?k3 ?k4 ?k5 ?k6 ?_; (case k1 => ktr_units); (case k2 => k_asm); (case k3 => k_asm); (case k4 => k_asm); (case k5 => k_mem); (case k6 => k_asm)))
  k_with "r setm2_5" => with_reducible ((with_reducible show wpAny _ _ (call (Value.ref 220) _) _ _ _); k_here; k_dflt (refine' Spec.use0e (last_patternX ?a0 ?a1 ?a2 ?a4 ?a5) ?k1 ?k2 ?k3 ?k4 ?k5 ?kK ?kd ?ku ?_; (case a0 => assumption); k_extra "m std"; (case a1 => k_mem); (case a2 => k_mem); (case a4 => k_asm); (case a5 => k_mem); k_extra "m end"); intro zh9 ztk9 zF9 zN9; k_extra "m fin")
  k_with "r setm2_3" => with_reducible ((with_reducible show wpAny _ _ (setItem (Value.ref _) (Value.ref _) _) _ _ _); k_here; k_dflt (refine' patX_set ?k1 ?k2 ?k3 (News.pull ?P ?k4) ?k5 ?_; (case k1 => ktr_units); (case k2 => k_asm); (case k3 => k_asm); (case k4 => k_asm); k_extra "m P"; (case k5 => k_all)); intro zh9 ztk9 zn9 zF9 zN9; (try k_sweep); (try dsimp only))
  k_with "r setm2_6" => with_reducible ((with_reducible show wpAny _ _ (call (Value.ref 227) _) _ _ _); k_here; k_dflt (refine' Spec.use3 (save_match_spec ?a0 ?a1 (mem_up ?m1 ?m2) ?a3 ?a4 ?a5 ?a6 ?a7) ?k1 ?k2 ?k3 (News.pull ?P ?k4) ?k5 ?kK ?kd ?ku ?_; (case a0 => assumption); (case a1 => with_reducible assumption); (case m1 => assumption); k_extra "m std"; k_extra "m P"; (case m2 => (intro zp9 zhp9; k_mem)); (case a3 => k_mem); (case a4 => k_asm); (case a5 => k_mem); (case a6 => k_all); (case a7 => omega); k_extra "m end"); intro zt9 ztt9 zc9 zh9 ztk9 zF9 zN9 zp9; refine' an2 zp9 ?_; clear zp9; intro zhb9 zhB9; (try k_lt zhB9); k_extra "m fin")
  k_with "r setm2_4" => with_reducible ((with_reducible show wpAny _ _ (setAttr (Value.ref _) _ _) _ _ _); k_here; k_dflt (refine' run_match ?k2 ?k3 (News.pull ?P ?k4) (mem_up ?m1 ?m2) ?k5 ?k6 ?_; (case k6 => assumption); (case m1 => assumption); (case k2 => k_asm); (case k3 => k_asm); (case k4 => k_asm); k_extra "m P"; (case m2 => (intro zp9 zhp9; k_mem)); (case k5 => k_all)); intro zh9 zes9 zn9 ztk9 zF9 zN9 zR9; (have zhRp9 := zR9.patterns); (have zhRs9 := zR9.saves); (have zhRm9 := zR9.mtch); (try k_sweep); (try dsimp only))
  k_with "r leave_1" => with_reducible ((with_reducible show wpAny _ _ (call (Value.ref 311) _) _ _ _); k_here; k_dflt (refine' Spec.use3 (undo_match_spec ?a0 (mem_up ?m1 ?m2) ?a2 ?a3 ?a4 ?a5) ?k1 ?k2 ?k3 (News.pull (Pull.tail ?P2) (News.pull ?P ?k4)) ?k5 ?kK ?kd ?ku ?_; (case a0 => assumption); (case m1 => assumption); k_extra "m std"; k_extra "m P"; k_extra "m P2"; (case m2 => (intro zp9 zhp9; k_mem)); (case a2 => k_mem); (case a3 => k_all); (case a4 => k_all); (case a5 => assumption); k_extra "m end"); intro zes9 zn9' zpn9 zh9 ztk9 zF9 zN9 zR9; (have zhRp9 := zR9.patterns); (have zhRs9 := zR9.saves); (have zhRm9 := zR9.mtch); k_extra "m fin")
  k_with "r setm_1" => with_reducible ((with_reducible show wpAny _ _ (call (Value.builtin "list.pop") _) _ _ _); k_here; k_dflt (refine' pop_led ?k2 (News.pull ?P ?k4) ?k5 ?k6 ?_; (case k2 => k_asm); (case k4 => k_asm); k_extra "m P"; (case k5 => k_all); (case k6 => omega)); intro zh9 zF9 zN9; (try k_sweep); (try dsimp only))
  k_with "r seesr_12" => with_reducible ((with_reducible show wpAny _ _ (call (Value.ref 740) _) _ _ _); k_here; k_dflt (refine' Spec.use (grab_spec (mem_up ?m1 ?m2) ?a1 ?a2 ?a3 ?a4 ?a5 ?a6) ?k1 ?k2 ?k3 (News.pull ?P ?k4) ?k5 ?kK ?kd ?ku ?_; (case m1 => assumption); (case a1 => assumption); k_extra "m std"; k_extra "m P"; (case m2 => (intro zp9 zhp9; k_mem)); (case a2 => omega); (case a3 => omega); (case a4 => omega); (case a5 => omega); (case a6 => k_all); k_extra "m end"); intro zr9 zn9 zh9 ztk9 zF9 zN9 zp9; refine' ex4 zp9 ?_; clear zp9; intro zi9 zit9 ztk9' zn9' zp9; refine' an4 zp9 ?_; clear zp9; intro ze9 zhlo9 zhhi9 ze9'; subst ze9; subst ze9'; k_extra "m fin")
  k_with "r matchd_3" => with_reducible ((with_reducible show wpAny _ _ (call (Value.type "range") _) _ _ _); k_here; k_dflt (refine' range2_rows ?k1 ?k2 ?_; (case k1 => k_asm); (case k2 => k_asm)); intro zh9 ztk9 zt9 zu9 zv9 zhR9 zF9 zN9 zhk9; (try k_sweep))
  k_with "r matchd_1" => with_reducible ((with_reducible show wpAny _ _ (newTuple _) _ _ _); k_here; k_dflt (refine' kup_newTuple ?F ?N ?_ ?z; (case F => k_asm); (case N => k_asm); (case z => kmk_size)); intro zD9 zh9 zF9 zN9 zl9; (try k_lt zl9); (try k_sweep))
  k_with "r matchd_2" => with_reducible ((with_reducible show wpAny _ _ (subscriptTail (Expr.Name ..) (Expr.Call ..) (Value.ref _) (Value.int _ _)) _ _ _); k_here; k_dflt (refine' menu_led ?k1 ?k2 ?k3 ?k4 ?_ ?k6; (case k1 => k_asm); (case k2 => k_mem); (case k3 => omega); (case k4 => omega); (case k6 => with_unfolding_all rfl)); intro znm9 ztm9 zhnm9)
  k_with "r lawm_1" => with_reducible ((with_reducible show wpAny _ _ (exec (Stmt.For (Expr.Name ..) (Expr.Tuple ..) ..) _) _ _ _); k_here; (rename Fr _ _ _ _ => zlF'); (with_unfolding_all refine' For_invVF zlF' ?k1 ?k2 ?_; (case k1 => exact rfl); (case k2 => exact rfl); k_whole))
  trivial
theorem rs_setm : True := by
  w_top off
  trivial
/-! Stores into a dict of names that is not written out -/
theorem getL_iff {k : Str} {es : List DictEntry} {w : Value} : getL k es = some (some w) ↔ ∃ e, es.find? (·.key.isStr k) = some e ∧ e.val = w := by
  unfold getL
  cases hf : es.find? (·.key.isStr k) with
  | some e => simp
  | none =>
    simp only [reduceCtorEq, false_and, exists_false, iff_false]
    split <;> simp
theorem find_putL_same {k : Str} {h : Int} {key v : Value} (hk : key.isStr k = true) : ∀ {es : List DictEntry}, ∃ e, (putL k h key v es).find? (·.key.isStr k) = some e ∧ e.val = v
  | [] => ⟨⟨h, key, v⟩, by simp [putL, hk], rfl⟩
  | e :: r => by
    by_cases he : e.key.isStr k = true
    · exact ⟨⟨e.hash, e.key, v⟩, by simp [putL, he], rfl⟩
    · obtain ⟨e', h1, h2⟩ := find_putL_same hk (h := h) (v := v) (es := r)
      refine ⟨e', ?_, h2⟩
      simp only [putL, he, Bool.false_eq_true, if_false]
      rw [List.find?_cons_of_neg (by simpa using he)]
      exact h1
theorem getL_putL_same {k : Str} {h : Int} {key v : Value} (hk : key.isStr k = true) {es : List DictEntry} : getL k (putL k h key v es) = some (some v) := getL_iff.mpr (find_putL_same hk)
theorem find_putL_other {k k' : Str} {h : Int} {key v : Value} (hne : ∀ x : Value, x.isStr k = true → x.isStr k' = false) : ∀ {es : List DictEntry} {e : DictEntry}, es.find? (·.key.isStr k') = some e → (putL k h key v es).find? (·.key.isStr k') = some e
  | [], _, hg => by simp at hg
  | a :: r, e, hg => by
    by_cases ha : a.key.isStr k = true
    · have h1 := hne _ ha
      rw [List.find?_cons_of_neg (by simpa using h1)] at hg
      simp only [putL, ha, if_true]
      rw [List.find?_cons_of_neg (by simpa using h1)]
      exact hg
    · simp only [putL, ha, Bool.false_eq_true, if_false]
      by_cases ha' : a.key.isStr k' = true
      · rw [List.find?_cons_of_pos (by simpa using ha')] at hg ⊢
        exact hg
      · rw [List.find?_cons_of_neg (by simpa using ha')] at hg ⊢
        exact find_putL_other hne hg
theorem getL_putL_other {k k' : Str} {h : Int} {key v w : Value} (hne : ∀ x : Value, x.isStr k = true → x.isStr k' = false) {es : List DictEntry} (hg : getL k' es = some (some w)) : getL k' (putL k h key v es) = some (some w) := by
  obtain ⟨e, h1, h2⟩ := getL_iff.mp hg
  exact getL_iff.mpr ⟨e, find_putL_other hne h1, h2⟩
theorem putL_len {k : Str} {h : Int} {key v : Value} : ∀ {es : List DictEntry} {w : Value}, getL k es = some (some w) → (putL k h key v es).length = es.length
  | [], w, hg => by
    obtain ⟨e, h1, _⟩ := getL_iff.mp hg
    simp at h1
  | a :: r, w, hg => by
    by_cases ha : a.key.isStr k = true
    · simp [putL, ha]
    · obtain ⟨e, h1, h2⟩ := getL_iff.mp hg
      rw [List.find?_cons_of_neg (by simpa using ha)] at h1
      have := putL_len (k := k) (h := h) (key := key) (v := v) (es := r) (getL_iff.mpr ⟨e, h1, h2⟩)
      simp [putL, ha, this]
theorem isStr_ne {k k' : Str} (hne : k ≠ k') : ∀ x : Value, x.isStr k = true → x.isStr k' = false := fun x h => by
  cases x <;> simp_all [Value.isStr]
/-- the run's own dict -/
structure RunEs (es : List DictEntry) (hp ct st sv pd : Addr) (mv : Value) : Prop where
  heap : getL (Str.ofString "heap") es = some (some (.ref hp))
  counter : getL (Str.ofString "counter") es = some (some (.ref ct))
  stash : getL (Str.ofString "stash") es = some (some (.ref st))
  saves : getL (Str.ofString "saves") es = some (some (.ref sv))
  patterns : getL (Str.ofString "patterns") es = some (some (.ref pd))
  mtch : getL (Str.ofString "match") es = some (some mv)
  len : es.length ≤ 100
theorem RunEs.put {es : List DictEntry} {hp ct st sv pd : Addr} {mv mv' : Value} {h : Int} {t : Tok} (R : RunEs es hp ct st sv pd mv) : RunEs (putL (Str.ofString "match") h (.str (Str.ofString "match") t) mv' es) hp ct st sv pd mv' where
  heap := getL_putL_other (isStr_ne (by decide)) R.heap
  counter := getL_putL_other (isStr_ne (by decide)) R.counter
  stash := getL_putL_other (isStr_ne (by decide)) R.stash
  saves := getL_putL_other (isStr_ne (by decide)) R.saves
  patterns := getL_putL_other (isStr_ne (by decide)) R.patterns
  mtch := getL_putL_same (by simp [Value.isStr])
  len := by rw [putL_len R.mtch]; exact R.len
/-- the dict of the last patterns: nothing yet, or one entry -/
noncomputable def patEs : Option Value → List (List Str × Addr × Value)
  | none => []
  | some v => [([Str.ofString "", Str.ofString "last"], 213, v)]
noncomputable def patX (w : World) : Option Value → Nat → Obj
  | none, n => dictOf [] n
  | some v, n => patO w v n
section
variable {w : World} {A : Around} {E : Value → Shared → Prop} {s : Shared} {h₀ : Heap} {L : Addr} {m : Str → Option Value} {news : Led}
theorem patX_dict {h : Heap} {pd : Addr} {po : Option Value} {pn : Nat} (X : (Mine.k.heap_1 w.params).In h) (ho : h.get? pd = some (patX w po pn)) :
    h.DictOfH (tupleKind (PySem.strKind PG w)) pd (patEs po) := by
  cases po with
  | none =>
    refine ⟨_, _, _, ho, ⟨rfl, rfl, rfl⟩, rfl, rfl, fun x hx => ?_, List.nodup_nil⟩
    have hx' : x ∈ ([] : List (List Str × Addr × Value)) := hx
    simp at hx'
  | some v => exact pat_dict X ho
theorem patX_get {pd : Addr} {po : Option Value} {pn : Nat} {Q : Value → Shared → Prop} (hu : A.units + 1 < cLine) (F : Fr h₀ L s.heap m) (X₀ : (Mine.k.heap_1 w.params).In h₀) (N : News h₀ L s.heap news) (hm : (pd, patX w po pn) ∈ news) (lo : (pd == sysModules) = false)
    (h : Q (po.getD .none) { s with toks := s.toks + 3 }) : wpAny (model PG w) A (call (.builtin "dict.get") [.ref pd, .ref 213]) Q E s := by
  have X := X₀.keeps F.keep
  have hD := patX_dict X (N _ hm).1
  refine call_meetsIn PySem.F.slot_dict_get hD.typeIs PySem.F.entry_dict_get (PySem.F.args_dict_get_2 _ _) (meetsH_dict_get (tupleKind (PySem.strKind PG w)) pd 213 lo) ⟨hu, _, _, lp_key X, hD, ?_⟩
  cases po with
  | none => exact h
  | some v =>
    have e : (atKey (patEs (some v)) [Str.ofString "", Str.ofString "last"]) = some (213, v) := by simp [atKey, patEs]
    rw [e]
    exact h
theorem patX_method {pd : Addr} {po : Option Value} {pn : Nat} {pl : Sem Bool} {Q : Value × List Value → Shared → Prop} (F : Fr h₀ L s.heap m) (X₀ : (Mine.k.heap_1 w.params).In h₀) (N : News h₀ L s.heap news) (hm : (pd, patX w po pn) ∈ news)
    (h : Q (.builtin "dict.get", [.ref pd]) s) : wpAny (model PG w) A (getMethod (.ref pd) "get" pl) Q E s := by
  have X := X₀.keeps F.keep
  have hD := patX_dict X (N _ hm).1
  exact getMethod_builtin hD.typeIs PySem.F.plainAttrs_dict PySem.F.slot_dict_get PySem.F.type_dict_get (dictOfH_noDict hD) h
theorem patX_set {pd : Addr} {po : Option Value} {pn : Nat} {v : Value} {Q : Unit → Shared → Prop} (hu : A.units + 1 < cLine) (F : Fr h₀ L s.heap m) (X₀ : (Mine.k.heap_1 w.params).In h₀) (N : News h₀ L s.heap ((pd, patX w po pn) :: news)) (hoff : ∀ p ∈ news, p.1 ≠ pd)
    (h : ∀ h' tk n', Fr h₀ L h' m → News h₀ L h' ((pd, patX w (some v) n') :: news) → Q () { s with heap := h', toks := tk }) : wpAny (model PG w) A (setItem (.ref pd) (.ref 213) v) Q E s := by
  have X := X₀.keeps F.keep
  have hD := patX_dict X (N _ (.head _)).1
  refine wpAny_setItem_heap (knd := tupleKind (PySem.strKind PG w)) hu (lp_key X) hD (fun h' hD' hs => ?_) (by cases po <;> simp [patEs, sizeLine_eq])
  have e : storedH (patEs po) [Str.ofString "", Str.ofString "last"] 213 v = patEs (some v) := by
    cases po with
    | none => simp [storedH, atKey, patEs]
    | some u => simp [storedH, atKey, patEs, putAt]
  rw [e] at hD'
  obtain ⟨o, es, ep, ho, ⟨c1, c2, c3⟩, hd, he, _, _⟩ := hD'
  have eo : o = patX w (some v) ep := by
    obtain ⟨cls, dct, dat, sl⟩ := o
    simp only at c1 c2 c3 hd
    subst c1 c2 c3 hd
    have : es = ([⟨tupleKeyHash (PySem.strKind PG w) [Str.ofString "", Str.ofString "last"], .ref 213, v⟩] : List DictEntry).toArray := by
      apply Array.ext'
      rw [he]
      rfl
    subst this
    rfl
  subst eo
  have z := N _ (.head _)
  exact h h' _ ep (F.change hs z.2.1 z.2.2) (N.setHead hoff hs ho)
end
theorem pop_led {prog : Program} {w : World} {A : Around} {E : Value → Shared → Prop} {s : Shared} {h₀ : Heap} {L D : Addr} {m : Str → Option Value} {news : Led} {p : List Value} {y : Value} {n : Nat} {Q : Value → Shared → Prop} (F : Fr h₀ L s.heap m) (N : News h₀ L s.heap ((D, listOf (p ++ [y]).toArray n) :: news)) (hoff : ∀ q ∈ news, q.1 ≠ D) (hl : p.length ≤ 1000)
    (h : ∀ h', Fr h₀ L h' m → News h₀ L h' ((D, listOf p.toArray (n + 1)) :: news) → Q y { s with heap := h' }) : wpAny (model prog w) A (call (.builtin "list.pop") [.ref D]) Q E s :=
  kl_pop F N (p := p) (y := y) (by simpa using kpa_last y p) (Upd.head hoff) (by rw [sizeLine_eq]; simp; omega) h
theorem rs_plain : True := by
  w_top off
  trivial
theorem fold_app : ∀ (l : List (Array Nat)) (a : Array Nat), l.foldl (fun acc p => acc ++ p) a = a ++ (l.map Array.toList).flatten.toArray
  | [], a => by simp
  | x :: r, a => by
    rw [List.foldl_cons, fold_app r]
    apply Array.ext'
    simp
theorem glued_empty (l : List Str) : (Txt.join Str.empty l) = ⟨(l.map fun p => p.cps.toList).flatten.toArray⟩ := by
  show Builtin.Str.glued Str.empty l = _
  unfold Builtin.Str.glued
  cases l with
  | nil => rfl
  | cons x r =>
    simp only [List.drop_succ_cons, List.drop_zero, List.headD_cons, List.map_cons, List.flatten_cons]
    have e : ∀ (r : List Str) (a : Array Nat), r.foldl (fun acc p => acc ++ Str.empty.cps ++ p.cps) a = a ++ (r.map fun p => p.cps.toList).flatten.toArray := by
      intro r
      induction r with
      | nil => intro a; simp
      | cons y t ih =>
        intro a
        rw [List.foldl_cons, ih]
        have : Str.empty.cps = #[] := rfl
        apply Array.ext'
        simp [this]
    rw [e]
    congr 1
    apply Array.ext'
    simp
theorem item_nat {x : Str} {i : Nat} (h : i < x.length) : (Txt.item x (i : Int)).cps.toList = [x.cps.toList[i]'(by simpa [Str.length] using h)] := by
  have h' : i < x.cps.size := h
  unfold Txt.item Txt.charAt
  have e : seqIndex? (i : Int) x.length = some i := by
    unfold seqIndex?
    simp
    omega
  rw [e]
  simp [Array.getElem?_eq_getElem h']
/-- the signs from b to e, glued, are the slice -/
theorem join_signs {x : Str} {b e : Int} {n : Nat} (h0 : 0 ≤ b) (h1 : b ≤ e) (h2 : e ≤ x.length) (hn : (n : Int) = e - b) :
    Txt.join Str.empty ((List.range n).map fun i : Nat => Txt.item x (b + (i : Int))) = Txt.slice x (some b) (some e) := by
  have hs := eq_of_beq (slice_closes (x := x) (i := b) (j := e) ⟨h0, h1, by simpa [Str.length] using h2⟩)
  rw [hs, glued_empty]
  congr 1
  congr 1
  rw [List.map_map]
  have e2 : (e - b).toNat = n := by omega
  rw [e2]
  obtain ⟨k, rfl⟩ : ∃ k : Nat, b = (k : Int) := ⟨b.toNat, by omega⟩
  have hk : k + n ≤ x.cps.toList.length := by
    have h3 : e ≤ (x.cps.toList.length : Int) := by simpa [Str.length] using h2
    omega
  have key : ∀ n, k + n ≤ x.cps.toList.length → ((List.range n).map ((fun p : Str => p.cps.toList) ∘ fun i : Nat => Txt.item x ((k : Int) + (i : Int)))).flatten = (x.cps.toList.drop k).take n := by
    intro n
    induction n with
    | zero => intro _; simp
    | succ n ih =>
      intro hk
      rw [List.range_succ, List.map_append, List.flatten_append, ih (by omega)]
      have hlt : k + n < x.length := by have : x.length = x.cps.toList.length := by simp [Str.length]
                                        omega
      have e3 := item_nat hlt
      rw [Int.natCast_add] at e3
      simp only [List.map_cons, List.map_nil, Function.comp_apply, e3, List.flatten_cons, List.flatten_nil, List.append_nil]
      rw [List.take_add_one, List.getElem?_drop, List.getElem?_eq_getElem (by omega)]
      rfl
  simpa using key n hk
theorem rs_dictp : True := by
  w_top off
  trivial
section
variable {prog : Program} {w : World} {A : Around} {E : Value → Shared → Prop} {s : Shared}
theorem getAttrQ_miss_list {a : Addr} {xs : Array Value} {k : Nat} {sl : Array (Option Value)} {name : Str} {Q : Option Value → Shared → Prop}
    (hx : s.heap.get? a = some { cls := .type "list", dict := none, data := .seq xs k, slots := sl }) (hmiss : typeLookup (.type "list") name = pure none) (hname : (["__module__", "__name__", "__qualname__", "__doc__", "__annotations__"] : List Str).contains name = false) (hA : A.handled = none)
    (h : ∀ h' tk, (∀ b ob, s.heap.get? b = some ob → h'.get? b = some ob) → Q none { s with heap := h', toks := tk }) (hsz : name.length + 100 ≤ sizeLine) :
    wpAny (model prog w) A (getAttr? (.ref a) name) Q E s := by
  obtain ⟨hp, g, d, tk, os⟩ := s
  have hT : ∀ tk', (⟨hp, g, d, tk', os⟩ : Shared).TypeIs (.ref a) "list" := fun _ => ⟨_, hx, rfl⟩
  have f1 := sub_AttributeError
  have f3 := F.slot_list_getattribute.lookup
  have f4 := F.slot_list_getattribute.bind (.ref a)
  have f5 := am_list_getattr_none
  unfold getAttr? getAttrBy? getAttrBy
  repeat (any_goals (first | assumption | exact hT _ | ((with_reducible show wpAny _ _ (call (Value.builtin "list.__getattribute__") _ _) _ _ _); refine call_meets F.slot_list_getattribute (hT _) am_entry_list_getattribute (F.args_list_getattribute_2 _ _) (meets_getattribute_miss_list a xs k sl name _ hmiss hname hsz) ⟨hx, hA, fun h' tk' e hx' => ?_⟩) | wp_step))
  obtain ⟨t', u', he⟩ := hx'.there
  show wpAny _ _ (getattributeRaised _ _ _ _ _ _ _) _ _ _
  unfold getattributeRaised
  repeat (any_goals (first | assumption | wp_step))
  exact h _ _ hx'.keeps
end

theorem entry_update_loop : entryFor table "dict.update.loop" = some Builtin.«dict.update.loop» := entryFor_of_fast (by kernel_rfl)
theorem plain_update_loop : plainId "dict.update.loop" = true := by decide +kernel
theorem list_no_keys : typeLookup (.type "list") "keys" = pure none := by rw [typeLookup_type, builtinLookup_eq_fast]; kernel_rfl
section
variable {prog : Program} {w : World} {A : Around} {R : Result → Shared → Prop}
theorem pairItems_tup {s : Shared} {E : Value → Shared → Prop} {a : Addr} {vs : List Value} {Q : List Value → Shared → Prop} (ha : s.heap.get? a = some (tupO vs)) (h : Q vs s) :
    wpAny (model prog w) A (Builtin.Dict.pairItems (.ref a)) Q E s := by
  obtain ⟨hp, g, d, tk, os⟩ := s
  unfold Builtin.Dict.pairItems
  refine wpAny_bind (wpAny_typeOf ⟨_, ha, rfl⟩ ?_)
  rw [if_pos (by decide)]
  repeat (any_goals (first | assumption | (with_reducible refine wpAny_loadPart_at ha ?_) | wp_step))
theorem update_loop {d I l : Addr} {vs : List Value} {kvs : List (Str × Value)} {res : Value} (h0 : Heap) (hlen : vs.length = kvs.length) (hn : (kvs.map (·.1)).Nodup) (hle : kvs.length ≤ 1000) (hlist : h0.IsList l vs.toArray)
    (htup : ∀ (j : Nat) (v : Value), vs[j]? = some v → ∃ (a : Addr) (k : Str) (t : Tok) (x : Value), v = Value.ref a ∧ h0.get? a = some (tupO [.str k t, x]) ∧ kvs[j]? = some (k, x) ∧ a ≠ I ∧ a ≠ d) (hlI : l ≠ I) (hld : l ≠ d) (hId : I ≠ d) (hh : A.handled = none) :
    ∀ (m i : Nat) (s : Shared), vs.length - i = m → i ≤ vs.length → s.heap.IsListIter I l i → s.heap.DictOf (PySem.strKind prog w) d (kvs.take i) → (∀ b o, b ≠ I → b ≠ d → h0.get? b = some o → s.heap.get? b = some o) →
      (∀ h' tk, h'.DictOf (PySem.strKind prog w) d kvs → (∀ b o, b ≠ I → b ≠ d → h0.get? b = some o → h'.get? b = some o) → R (.ok (.ret res)) { s with heap := h', toks := tk }) →
      codeAny (model prog w) A (.builtin "dict.update.loop" ⟨[.ref d, .ref I, rawInt (i : Int), res], []⟩) R s := by
  intro m
  induction m with
  | zero =>
    intro i s hm hi hit hd hk hR
    have hin : i = vs.length := by omega
    subst hin
    refine codeAny_builtin entry_update_loop ?_
    rw [Around.under_plainId plain_update_loop _]
    show wpAny _ A.in1 (pyNext (.ref I) >>= _) _ _ s
    have hl : s.heap.IsList l vs.toArray := hlist.at fun o e => hk l o hlI hld e
    refine wpAny_bind (wpAny_pyNext_list_end hh hit hl (by simp) fun h' he' => ?_)
    show wpAny _ _ (Builtin.Dict.addKeywords d [] >>= _) _ _ _
    refine wpAny_bind (wpAny_pure (wpAny_pure (hR h' _ ?_ ?_)))
    · rw [hlen, List.take_length] at hd
      exact hd.at fun o e => he' d o (Ne.symm hId) e
    · exact fun b o b1 b2 e => he' b o b1 (hk b o b1 b2 e)
  | succ m ih =>
    intro i s hm hi hit hd hk hR
    have hlt : i < vs.length := by omega
    obtain ⟨a, k, t, x, hv, ha, hkv, haI, had⟩ := htup i vs[i] (List.getElem?_eq_getElem hlt)
    refine codeAny_builtin entry_update_loop ?_
    rw [Around.under_plainId plain_update_loop _]
    show wpAny _ A.in1 (pyNext (.ref I) >>= _) _ _ s
    have hl : s.heap.IsList l vs.toArray := hlist.at fun o e => hk l o hlI hld e
    refine wpAny_bind (wpAny_pyNext_list_item hit hl (x := .ref a) (by simp [← hv, hlt]) fun h' hit' hs' => ?_)
    have ha' : h'.get? a = some (tupO [.str k t, x]) := hs'.extBut a _ haI (hk a _ haI had ha)
    have hd' : h'.DictOf (PySem.strKind prog w) d (kvs.take i) := hd.at fun o e => hs'.extBut d o (Ne.symm hId) e
    show wpAny _ _ (holding [.ref a] _ >>= _) _ _ _
    refine wpAny_bind (wpAny_holding (wpAny_bind (wpAny_tryCatch (pairItems_tup ha' ?_))))
    show wpAny _ _ (holding [.str k t, x] _) _ _ _
    refine wpAny_holding (wpAny_dictSet_pairs (strKind_is prog w k t) hd' (fun h'' hd'' hs'' => ?_) (by rw [sizeLine_eq, List.length_take]; omega))
    refine wpAny_pure ⟨plainId_quiet plain_update_loop _, ?_⟩
    have e1 : rawInt ((i : Int) + 1) = rawInt ((i + 1 : Nat) : Int) := by simp
    rw [e1]
    have e2 : stored (kvs.take i) k x = kvs.take (i + 1) := by
      have hki : i < kvs.length := by omega
      have hg : kvs[i] = (k, x) := by rw [List.getElem?_eq_getElem hki] at hkv; exact Option.some.inj hkv
      rw [List.take_add_one, List.getElem?_eq_getElem hki, hg]
      unfold stored
      rw [if_neg]
      · rfl
      · intro e
        obtain ⟨p, hp, q⟩ := List.any_eq_true.mp e
        have hpk : p.1 = k := of_decide_eq_true q
        obtain ⟨j, hj, hjp⟩ := List.mem_iff_getElem.mp hp
        rw [List.length_take] at hj
        rw [List.getElem_take] at hjp
        have hl2 : (kvs.map (·.1)).length = kvs.length := List.length_map ..
        have := List.pairwise_iff_getElem.mp hn j i (by omega) (by omega) (by omega)
        apply this
        rw [List.getElem_map, List.getElem_map, hjp, hg]
        exact hpk
    rw [e2] at hd''
    refine ih (i + 1) _ (by omega) hlt (hit'.at fun o e => hs''.extBut I o hId e) hd'' (fun b o b1 b2 e => hs''.extBut b o b2 (hs'.extBut b o b1 (hk b o b1 b2 e))) fun h3 tk3 => hR h3 tk3
end
section
variable {prog : Program} {w : World} {A : Around} {E : Value → Shared → Prop} {s : Shared}
theorem call_dict_pairs {l : Addr} {vs : List Value} {kvs : List (Str × Value)} {n : Nat} {Q : Value → Shared → Prop} (hh : A.handled = none) (hl : s.heap.get? l = some { cls := .type "list", data := .seq vs.toArray n })
    (hlen : vs.length = kvs.length) (hn : (kvs.map (·.1)).Nodup) (hle : kvs.length ≤ 1000)
    (htup : ∀ (j : Nat) (v : Value), vs[j]? = some v → ∃ (a : Addr) (k : Str) (t : Tok) (x : Value), v = Value.ref a ∧ s.heap.get? a = some (tupO [.str k t, x]) ∧ kvs[j]? = some (k, x))
    (h : ∀ h' tk, h'.DictOf (PySem.strKind prog w) s.heap.objs.size kvs → (∀ b o, s.heap.get? b = some o → h'.get? b = some o) → Q (.ref s.heap.objs.size) { s with heap := h', toks := tk }) :
    wpAny (model prog w) A (call (.type "dict") [.ref l]) Q E s := by
  refine callType_codes (Q₁ := fun obj s₁ => obj = .ref s.heap.objs.size ∧ s₁ = { s with heap := s.heap.push { cls := .type "dict", data := .dict #[] } }) F.kt_called_dict (F.kt_typeCall_dict_1 _) F.entry_dict_init (kt_code_dict_new _ ⟨rfl, rfl⟩) ?_
  rintro obj s₁ ⟨rfl, rfl⟩
  have hnew : (s.heap.push { cls := .type "dict", data := .dict #[] }).DictOf (PySem.strKind prog w) s.heap.objs.size [] := Heap.DictOf.new s.heap
  have up : ∀ b o, s.heap.get? b = some o → (s.heap.push { cls := .type "dict", data := .dict #[] }).get? b = some o := fun b o e => Heap.get?_push_of_some _ e
  have hl' := up _ _ hl
  refine ⟨hnew.typeIs, F.args_dict_init_2 _ _, ?_⟩
  unfold Builtin.«dict.__init__»
  refine wpAny_bind ?_
  unfold Builtin.Dict.selfAndRest
  refine wpAny_bind (wpAny_notOrdered_dict hnew.typeIs ?_)
  show wpAny _ _ (pure (s.heap.objs.size, [Value.ref l])) _ _ _
  refine wpAny_pure ?_
  show wpAny _ _ (Builtin.Dict.updateFrom "dict.__init__" s.heap.objs.size (.ref l) [] .none) _ _ _
  unfold Builtin.Dict.updateFrom
  refine wpAny_bind (wpAny_typeOf ⟨_, hl', rfl⟩ ?_)
  rw [if_pos (by decide)]
  refine wpAny_bind (getAttrQ_miss_list hl' list_no_keys (by decide) hh (fun h1 tk1 k1 => ?_) (by rw [sizeLine_eq]; decide))
  simp only [Option.isNone_none, ↓reduceIte]
  refine wpAny_bind (wpAny_rule ?_)
  have hl1 := k1 _ _ hl'
  refine wpAny_bind (wpAny_pyIter_list (l := l) (items := vs.toArray) ⟨_, hl1, rfl, n, rfl⟩ ?_)
  have hlt : ∀ b o, s.heap.get? b = some o → b < s.heap.objs.size := fun b o e => Heap.lt_size e
  have hdl : s.heap.objs.size < h1.objs.size := by
    obtain ⟨o, _, _, ho, _⟩ := hnew
    exact Heap.lt_size (k1 _ _ ho)
  refine wpAny_pure ⟨plainId_quiet plain_update_loop _, update_loop (prog := prog) (w := w) (res := .none) (A := A.in1) (I := h1.objs.size) (l := l) (vs := vs) (kvs := kvs) s.heap hlen hn hle ⟨_, hl, rfl, n, rfl⟩ (fun j v hv => ?_) (Nat.ne_of_lt (Nat.lt_trans (hlt _ _ hl) hdl)) (Nat.ne_of_lt (hlt _ _ hl)) (Nat.ne_of_gt hdl) hh vs.length 0 _ rfl (Nat.zero_le _) ⟨_, Heap.get?_push_size _ rfl, rfl, rfl⟩ ?_ (fun b o b1 b2 e => Heap.get?_push_of_some _ (k1 b o (up b o e))) fun h' tk' hd' hk' => ?_⟩
  · obtain ⟨a, k, t, x, e1, e2, e3⟩ := htup j v hv
    exact ⟨a, k, t, x, e1, e2, e3, Nat.ne_of_lt (Nat.lt_trans (hlt _ _ e2) hdl), Nat.ne_of_lt (hlt _ _ e2)⟩
  · exact (hnew.at fun o e => k1 _ o e).push _
  · exact ⟨rfl, h h' tk' hd' fun b o e => hk' b o (Nat.ne_of_lt (Nat.lt_trans (hlt _ _ e) hdl)) (Nat.ne_of_lt (hlt _ _ e)) e⟩
end
section
variable {prog : Program} {w : World} {A : Around} {E : Value → Shared → Prop} {s : Shared} {h₀ : Heap} {L : Addr} {m : Str → Option Value} {news : List (Addr × Obj)}
theorem dict_pairs_led0 {l : Addr} {vs : List Value} {kvs : List (Str × Value)} {n : Nat} {Q : Value → Shared → Prop} (hh : A.handled = none) (F : Fr h₀ L s.heap m) (N : News h₀ L s.heap news) (hbig : sysModules < h₀.objs.size)
    (hm : (l, ({ cls := .type "list", data := .seq vs.toArray n } : Obj)) ∈ news) (hlen : vs.length = kvs.length) (hn : (kvs.map (·.1)).Nodup) (hle : kvs.length ≤ 1000)
    (htup : ∀ (j : Nat) (v : Value), vs[j]? = some v → ∃ (a : Addr) (k : Str) (t : Tok) (x : Value), v = Value.ref a ∧ (a, tupO [.str k t, x]) ∈ news ∧ kvs[j]? = some (k, x))
    (h : ∀ (d : Addr) (o : Obj) h' tk, Fr h₀ L h' m → News h₀ L h' ((d, o) :: news) → (∀ p ∈ news, p.1 < d) → (d == sysModules) = false → o.IsDictOf (PySem.strKind prog w) kvs → Q (.ref d) { s with heap := h', toks := tk }) :
    wpAny (model prog w) A (call (.type "dict") [.ref l]) Q E s := by
  refine call_dict_pairs hh (N _ hm).1 hlen hn hle (fun j v hv => ?_) fun h' tk hd hk => ?_
  · obtain ⟨a, k, t, x, e1, e2, e3⟩ := htup j v hv
    exact ⟨a, k, t, x, e1, (N _ e2).1, e3⟩
  · obtain ⟨o, ho, hdo⟩ := Heap.dictOf_iff.mp hd
    refine h _ o h' tk (F.keeps hk) (fun p hp => ?_) (fun p hp => Heap.lt_size (N p hp).1) (F.notModules hbig) hdo
    rcases List.mem_cons.mp hp with rfl | hp
    · have := (News.push F N { cls := .type "dict", data := .dict #[] }) _ (.head _)
      exact ⟨ho, this.2⟩
    · exact ⟨hk _ _ (N p hp).1, (N p hp).2⟩
end
theorem rs_enumt : True := by
  w_top off
  trivial
/-! enumerate over a tuple -/
section
variable {prog : Program} {w : World} {A : Around} {E : Value → Shared → Prop} {s : Shared}
theorem nextOf_tuple_item {it t : Addr} {i : Nat} {items : Array Value} {x : Value} {Q : Value → Shared → Prop} (hit : s.heap.IsTupleIter it t i) (ht : s.heap.IsTuple t items) (hx : items[i]? = some x)
    (hQ : ∀ h', h'.IsTupleIter it t (i + 1) → Heap.SameBut it s.heap h' → Q x { s with heap := h' }) : wpAny (model prog w) A (Builtin.SmallTypes.nextOf (.ref it)) Q E s := by
  obtain ⟨o, ho, hc, hd⟩ := id hit
  obtain ⟨ol, hol, _, nl, hdl⟩ := ht
  unfold Builtin.SmallTypes.nextOf
  refine wpAny_bind (wpAny_callSpecial?_slot (name := Str.ofString "__next__") hit.typeIs F.slot_tuple_iterator_next
    (wpAny_call_entry F.slot_tuple_iterator_next hit.typeIs F.entry_tuple_iterator_next ?_ (F.args_tuple_iterator_next_1 _)))
  show wpAny _ _ (field (.ref it) 0 >>= _) _ _ s
  refine wpAny_bind (wpAny_field ho hd (x := .ref t) rfl ?_)
  show wpAny _ _ (if (Value.ref t == Value.none) = true then _ else _) _ _ s
  rw [if_neg (show ¬ ((Value.ref t == Value.none) = true) from Bool.false_ne_true)]
  show wpAny _ _ (field (.ref it) 1 >>= _) _ _ s
  refine wpAny_bind (wpAny_field ho hd (x := .int i 0) rfl ?_)
  show wpAny _ _ (seqItems? (.ref t) >>= _) _ _ s
  refine wpAny_bind (wpAny_seqItems hol hdl ?_)
  simp only [Int.toNat_natCast, hx]
  refine wpAny_bind (wpAny_setField ho hd (by simp) (wpAny_pure ⟨x, rfl, wpAny_pure (hQ _ ?_ (Heap.SameBut.update ..))⟩))
  exact ⟨_, Heap.get?_update_self _ ho (Obj.isFreed_of_fields (Obj.data_mapFields hd _)), (Obj.cls_mapFields ..).trans hc, by rw [Obj.data_mapFields hd]; simp [rawInt]⟩
theorem nextOf_tuple_end {it t : Addr} {i : Nat} {items : Array Value} {Q : Value → Shared → Prop} (hh : A.handled = none) (hit : s.heap.IsTupleIter it t i) (ht : s.heap.IsTuple t items) (hx : items[i]? = none)
    (hE : ∀ h' e, Heap.ExtBut it s.heap h' → (∃ o, h'.get? e = some o ∧ o.cls = .type "StopIteration") → E (.ref e) { s with heap := h' }) : wpAny (model prog w) A (Builtin.SmallTypes.nextOf (.ref it)) Q E s := by
  obtain ⟨o, ho, hc, hd⟩ := id hit
  obtain ⟨ol, hol, _, nl, hdl⟩ := ht
  unfold Builtin.SmallTypes.nextOf
  refine wpAny_bind (wpAny_callSpecial?_slot (name := Str.ofString "__next__") hit.typeIs F.slot_tuple_iterator_next
    (wpAny_call_entry F.slot_tuple_iterator_next hit.typeIs F.entry_tuple_iterator_next ?_ (F.args_tuple_iterator_next_1 _)))
  show wpAny _ _ (field (.ref it) 0 >>= _) _ _ s
  refine wpAny_bind (wpAny_field ho hd (x := .ref t) rfl ?_)
  show wpAny _ _ (if (Value.ref t == Value.none) = true then _ else _) _ _ s
  rw [if_neg (show ¬ ((Value.ref t == Value.none) = true) from Bool.false_ne_true)]
  show wpAny _ _ (field (.ref it) 1 >>= _) _ _ s
  refine wpAny_bind (wpAny_field ho hd (x := .int i 0) rfl ?_)
  show wpAny _ _ (seqItems? (.ref t) >>= _) _ _ s
  refine wpAny_bind (wpAny_seqItems hol hdl ?_)
  simp only [Int.toNat_natCast, hx]
  refine wpAny_bind (wpAny_rule (wpAny_bind (wpAny_setField ho hd (by simp) ?_)))
  show wpAny _ _ (newExc (.type "StopIteration") [] >>= _) _ _ _
  refine wpAny_bind ?_
  simp only [newExc, newTuple]
  refine wpAny_bind (wpAny_newObj_type ?_ (by size_fits))
  refine wpAny_bind (m := firstArgMember _ _) (wpAny_of_eq (a := Value.none) (by first | rfl | (simp only [firstArgMember]; rfl)) ?_)
  refine wpAny_newObj_type ?_ (by size_fits)
  simp only [raiseNew]
  refine wpAny_bind (wpAny_handled ?_)
  first | rw [show A.in1.handled = none from hh] | rw [hh]
  refine wpAny_bind (wpAny_pure (wpAny_throw ?_))
  exact hE _ _ (((Heap.SameBut.update ..).extBut.push _).push _) ⟨_, Heap.get?_push_size _ rfl, rfl⟩
end
theorem draws_tuple {prog : Program} {w : World} {A : Around} (hh : A.handled = none) (it l : Addr) (hne : l ≠ it) (items : Array Value) :
    Draws prog w A it [it, l] items.size (fun i v => items[i]? = some v) (fun i h => h.IsTupleIter it l i ∧ h.IsTuple l items) where
  live := fun _ _ st => let ⟨o, ho, _⟩ := st.1; ⟨o, ho⟩
  frame := fun _ _ _ st hk => ⟨st.1.at fun o e => hk it (by simp) o e, st.2.at fun o e => hk l (by simp) o e⟩
  item := fun i s Q E hi st hQ => nextOf_tuple_item st.1 st.2 (x := items[i]) (by simp [hi]) fun h' hit' hs' => hQ _ h' s.toks (by simp [hi]) ⟨hit', st.2.extBut hs'.extBut hne⟩ hs'
  done := fun s Q E st hE => nextOf_tuple_end hh st.1 st.2 (by simp) hE
open AutoSeq1 (wpAny_loadPart')
theorem meets_enum_tuple (l : Addr) (items : Array Value) (n : Nat) (dct : Option Addr) (sl : Array (Option Value)) :
    Meets (Builtin.«enumerate.__new__» ⟨[.type "enumerate", .ref l], []⟩) (fun _ R s => s.heap.get? l = some { cls := .type "tuple", dict := dct, data := .seq items n, slots := sl } ∧
      R (.ok (.ret (.ref (s.heap.push { cls := .type "tuple_iterator", data := .fields #[.ref l, .int 0 0] }).objs.size)))
        { s with heap := (s.heap.push { cls := .type "tuple_iterator", data := .fields #[.ref l, .int 0 0] }).push { cls := .type "enumerate", data := .fields #[.none, .bool false, .ref s.heap.objs.size, rawInt 0, .none, .none] } }) :=
  .of_wp fun prog w A R s h => by
    obtain ⟨hp, g, d, tk, os⟩ := s
    obtain ⟨hl, h⟩ := h
    have hsub := sub_enumerate
    have hL : Heap.IsTuple (Shared.heap ⟨hp, g, d, tk, os⟩) l items := ⟨_, hl, rfl, n, rfl⟩
    wp_walk using wpAny_loadPart' hl
    refine wpAny_stack_any fun st => wpAny_pure ?_
    split
    · rename_i c _ _ _ _ _
      cases (c == Value.type "enumerate")
      · wp_walk using wpAny_loadPart' hl, wpAny_pyIter_tuple hL
        exact ⟨_, rfl, h⟩
      · wp_walk using wpAny_loadPart' hl, wpAny_pyIter_tuple hL
        exact ⟨_, rfl, h⟩
    · wp_walk using wpAny_loadPart' hl, wpAny_pyIter_tuple hL
      exact ⟨_, rfl, h⟩
section
variable {prog : Program} {w : World} {A : Around} {E : Value → Shared → Prop} {s : Shared}
theorem call_enum_tuple {l : Addr} {items : Array Value} {Q : Value → Shared → Prop} (hL : s.heap.IsTuple l items)
    (h : ∀ h', IsEnum h' (s.heap.objs.size + 1) s.heap.objs.size 0 .none → h'.IsTupleIter s.heap.objs.size l 0 → h'.objs.size = s.heap.objs.size + 2 →
      (∀ b o, s.heap.get? b = some o → h'.get? b = some o) → Q (.ref (s.heap.objs.size + 1)) { s with heap := h' }) :
    wpAny (model prog w) A (call (.type "enumerate") [.ref l]) Q E s := by
  obtain ⟨⟨c, dct, dt, sl⟩, hl, hc, n, hd⟩ := hL
  replace hc : c = .type "tuple" := hc
  replace hd : dt = .seq items n := hd
  subst hc hd
  refine callType_new F.called_enumerate (by decide) (F.typeCall_enumerate_1 _) (F.newCall_enumerate_1 _) (fun obj => F.args_object_init_2 obj _) F.entry_enumerate_new (meets_enum_tuple l items n dct sl) ⟨hl, ?_⟩
  have hz : (s.heap.push { cls := .type "tuple_iterator", data := .fields #[.ref l, .int 0 0] }).objs.size = s.heap.objs.size + 1 := Heap.size_push ..
  show _ ∧ _
  rw [hz]
  have he : IsEnum ((s.heap.push { cls := .type "tuple_iterator", data := .fields #[.ref l, .int 0 0] }).push
      { cls := .type "enumerate", data := .fields #[.none, .bool false, .ref s.heap.objs.size, rawInt 0, .none, .none] }) (s.heap.objs.size + 1) s.heap.objs.size 0 .none := by
    have := Heap.get?_push_size (s.heap.push { cls := .type "tuple_iterator", data := .fields #[.ref l, .int 0 0] })
      (o := { cls := .type "enumerate", data := .fields #[.none, .bool false, .ref s.heap.objs.size, rawInt 0, .none, .none] }) rfl
    rw [hz] at this
    exact this
  exact ⟨⟨_, he, rfl⟩, h _ he ⟨_, Heap.get?_push_of_some _ (Heap.get?_push_size _ rfl), rfl, rfl⟩ (by rw [Heap.size_push, hz]) fun b o x => Heap.get?_push_of_some _ (Heap.get?_push_of_some _ x)⟩
end
section
variable {prog : Program} {w : World} {A : Around} {E : Value → Shared → Prop} {s : Shared} {env : Env} {h₀ : Heap} {body : List Stmt} {Q : Flow → Shared → Prop}
/-- for i, x in enumerate(tuple): an invariant J of the names and the ledger -/
theorem enum_tupJ {elts : List PySem.Expr} {k : Nat} {pos : Pos} {l : Addr} {vs : List Value} {n : Nat} {m₀ : Str → Option Value} {news : List (Addr × Obj)} (J : Nat → (Str → Option Value) → List (Addr × Obj) → Prop)
    (hh : A.handled = none) (F : Fr h₀ env.locals s.heap m₀) (N : News h₀ env.locals s.heap news) (hm : (l, ({ cls := .type "tuple", data := .seq vs.toArray n } : Obj)) ∈ news)
    (hJm : ∀ i m nx, J i m nx → (l, ({ cls := .type "tuple", data := .seq vs.toArray n } : Obj)) ∈ nx) (hj : J 0 m₀ news)
    (turn : ∀ i x t T m₁ nx h tk I₁ I₂ o₁ o₂, vs[i]? = some x → J i m₁ nx → (∀ p ∈ nx, p.1 ≠ I₁ ∧ p.1 ≠ I₂) → Fr h₀ env.locals h m₁ → News h₀ env.locals h ((I₁, o₁) :: (I₂, o₂) :: nx) → IsTup h T #[.int (i : Int) t, x] →
      wpAny (model prog w) A (assign (.Tuple elts k pos) env (.ref T)) (fun _ s₂ => wpAny (model prog w) A (execs body env)
        (UnrPostW h₀ env.locals { s with heap := h, toks := tk } [(I₁, o₁), (I₂, o₂)] (fun m' n' => J (i + 1) m' n') Q) E s₂) E { s with heap := h, toks := tk })
    (done : ∀ m₁ nx h tk, J vs.length m₁ nx → Fr h₀ env.locals h m₁ → News h₀ env.locals h nx → Q .next { s with heap := h, toks := tk }) :
    wpAny (model prog w) A (call (.type "enumerate") [.ref l]) (fun xv s₁ => wpAny (model prog w) A (pyIter xv) (fun it s₂ => TurnsAt prog w A h₀ env (.Tuple elts k pos) body Q E it s₂) E s₁) E s := by
  have hax := N _ hm
  have hl : s.heap.IsTuple l vs.toArray := ⟨_, hax.1, rfl, n, rfl⟩
  have hlt : l < s.heap.objs.size := Heap.lt_size hax.1
  have hLs : env.locals < s.heap.objs.size := F.ns.lt
  refine call_enum_tuple hl fun h' hE hI hsz hk => wpAny_pyIter_enum hE ?_
  have hEf : s.heap.objs.size + 1 ∉ [s.heap.objs.size, l] := by
    intro hq
    have hq' : s.heap.objs.size + 1 = s.heap.objs.size ∨ s.heap.objs.size + 1 = l := by simpa using hq
    rcases hq' with e | e
    · exact absurd e (Nat.succ_ne_self _)
    · exact ktu_ne 1 hlt e.symm
  have Dr : Draws prog w A.in1 s.heap.objs.size [s.heap.objs.size, l] vs.toArray.size (fun i v => vs.toArray[i]? = some v) (fun i h => h.IsTupleIter s.heap.objs.size l i ∧ h.IsTuple l vs.toArray) := draws_tuple (A := A.in1) hh s.heap.objs.size l (Nat.ne_of_lt hlt) vs.toArray
  have W := KTurns.ofWalksU (elts := elts) (k := k) (pos := pos) (WalksT.enumerateD Dr (s.heap.objs.size + 1) (Nat.succ_ne_self _) hEf (by simp)).toU
  refine ⟨s.heap.objs.size + 1, _, _, _, _, _, _, m₀, news, fun i m nx => J i m nx, rfl, W, ?_, ?_, ?_, ?_, F.keeps hk, N.grown hk, hj, ?_, ?_⟩
  · intro hI'
    have hb' : env.locals = s.heap.objs.size + 1 ∨ env.locals = s.heap.objs.size ∨ env.locals = l := by simpa using hI'
    rcases hb' with e | e | e
    · exact ktu_ne 1 hLs e
    · exact Nat.ne_of_lt hLs e
    · exact hax.2.1 e.symm
  · intro b hb
    have hb' : b = s.heap.objs.size + 1 ∨ b = s.heap.objs.size := by simpa using hb
    rcases hb' with rfl | rfl
    · exact ktu_new F (Nat.le_add_right _ _)
    · exact ktu_new F (Nat.le_refl _)
  · intro p hp hI'
    have hb' : p.1 = s.heap.objs.size + 1 ∨ p.1 = s.heap.objs.size := by simpa using hI'
    have hlp := Heap.lt_size (N p hp).1
    rcases hb' with e | e
    · exact ktu_ne 1 hlp e
    · exact Nat.ne_of_lt hlp e
  · exact ⟨⟨.none, hE⟩, hI, hl.at fun o e => hk l o e⟩
  · rintro i v m₁ nx h₁ tk₁ own hin ⟨T, vals, rfl, ⟨t, x, hx, rfl⟩, hT⟩ hJ hoff hown hget hall hst F₁ N₁
    have hoff' : ∀ p ∈ nx, p.1 ≠ s.heap.objs.size + 1 ∧ p.1 ≠ s.heap.objs.size := fun p hp => ⟨fun e => hoff p hp (by simp [e]), fun e => hoff p hp (by simp [e])⟩
    obtain ⟨⟨old, he⟩, ⟨oi, hoi, hic, hid⟩, hlt'⟩ := hst
    have he' : ∃ oe : Obj, h₁.get? (s.heap.objs.size + 1) = some oe := ⟨_, he⟩
    obtain ⟨oe, hoe⟩ := he'
    have n1 : h₀.get? (s.heap.objs.size + 1) = none := ktu_new F (Nat.le_add_right _ _)
    have n2 : h₀.get? s.heap.objs.size = none := ktu_new F (Nat.le_refl _)
    have a1 := hall (s.heap.objs.size + 1) (by simp) n1 oe hoe
    have a2 := hall s.heap.objs.size (by simp) n2 oi hoi
    have N₂ : News h₀ env.locals h₁ ((s.heap.objs.size + 1, oe) :: (s.heap.objs.size, oi) :: nx) := fun p hp => by
      rcases List.mem_cons.mp hp with rfl | hp
      · exact N₁ _ (List.mem_append_left _ a1)
      · rcases List.mem_cons.mp hp with rfl | hp
        · exact N₁ _ (List.mem_append_left _ a2)
        · exact N₁ _ (List.mem_append_right _ hp)
    refine wpAny_mono (turn i x t T m₁ nx h₁ tk₁ _ _ oe oi (by simpa using hx) hJ hoff' F₁ N₂ hT) (fun _ s₂ h₂ => wpAny_mono h₂ (fun f s₃ p => ?_) fun _ _ e => e) fun _ _ e => e
    have fin : UnrEndW h₀ env.locals { s with heap := h₁, toks := tk₁ } [(s.heap.objs.size + 1, oe), (s.heap.objs.size, oi)] (fun m' n' => J (i + 1) m' n') s₃ →
        LoopStepU h₀ env.locals [s.heap.objs.size + 1, s.heap.objs.size] own (J (i + 1)) { s with heap := h₁, toks := tk₁ } .next s₃ := by
      rintro ⟨h', tk, m', nx', e, F', N', ho, hJ'⟩
      refine ⟨rfl, h', tk, m', nx', e, F', fun p hp => ?_, fun p hp hI => ?_, hJ'⟩
      · rcases List.mem_append.mp hp with hp | hp
        · have h2 : h₁.get? p.1 = some p.2 := hget _ hp
          have hb' : p.1 = s.heap.objs.size + 1 ∨ p.1 = s.heap.objs.size ∨ p.1 = l := by simpa using hown p hp
          rcases hb' with q | q | q
          · rw [q, hoe] at h2
            rw [show p = (s.heap.objs.size + 1, oe) from Prod.ext q (Option.some.inj h2).symm]
            exact N' _ (.head _)
          · rw [q, hoi] at h2
            rw [show p = (s.heap.objs.size, oi) from Prod.ext q (Option.some.inj h2).symm]
            exact N' _ (.tail _ (.head _))
          · have h3 := (N₂ _ (.tail _ (.tail _ (hJm _ _ _ hJ)))).1
            rw [q] at h2
            rw [show p = (l, ({ cls := .type "tuple", data := .seq vs.toArray n } : Obj)) from Prod.ext q (Option.some.inj (h2.symm.trans h3))]
            exact N' _ (.tail _ (.tail _ (hJm _ _ _ hJ')))
        · exact N' p (.tail _ (.tail _ hp))
      · have hb' : p.1 = s.heap.objs.size + 1 ∨ p.1 = s.heap.objs.size := by simpa using hI
        rcases hb' with q | q
        · exact ho p hp _ (.head _) q
        · exact ho p hp _ (.tail _ (.head _)) q
    cases f with
    | ret v => exact .ret p
    | brk => exact .brk p
    | next => exact .next (fin p)
    | cont => exact .cont (fin p)
  · intro h' tk m' nx' F' N' _ hJ
    have e : vs.toArray.size = vs.length := List.size_toArray
    rw [e] at hJ
    exact done m' nx' h' tk hJ F' N'
end
theorem rs_loops : True := by
  w_top off
  trivial
/-- a turn's end: J of the names and the ledger behind it, the iterator as it stood -/
def TurnQ (h₀ : Heap) (L I : Addr) (oI : Obj) (J : (Str → Option Value) → Led → Prop) (s₁ : Shared) (Q : Flow → Shared → Prop) (f : Flow) (s₂ : Shared) : Prop :=
  match f with
  | .ret v => Q (.ret v) s₂
  | .brk => Q .next s₂
  | _ => ∃ h' tk m' nx, s₂ = { s₁ with heap := h', toks := tk } ∧ Fr h₀ L h' m' ∧ News h₀ L h' ((I, oI) :: nx) ∧ (∀ p ∈ nx, p.1 ≠ I) ∧ J m' nx
section
open PySem.Calls
variable {prog : Program} {w : World} {A : Around} {E : Value → Shared → Prop} {s : Shared} {env : Env} {h₀ : Heap} {x : Str} {body : List Stmt} {Q : Flow → Shared → Prop}
theorem loop_J {I : Addr} {fp : List Addr} {n : Nat} {P : Nat → Value → Prop} {St : Nat → Heap → Prop} {m₀ : Str → Option Value} {news : Led} (J : Nat → (Str → Option Value) → Led → Prop)
    (W : Walks prog w A I fp [I] n P St) (hob : ∀ i h, St i h → ∃ o, h.get? I = some o) (hI0 : h₀.get? I = none) (hLf : env.locals ∉ fp) (hax : ∀ b ∈ fp, b ≠ I → ∃ oa, ∀ i m nx, J i m nx → (b, oa) ∈ nx)
    (hst : St 0 s.heap) (F : Fr h₀ env.locals s.heap m₀) (N : News h₀ env.locals s.heap news) (hoff : ∀ p ∈ news, p.1 ≠ I) (hj : J 0 m₀ news)
    (turn : ∀ i v m₁ nx h tk oI, i < n → P i v → J i m₁ nx → (∀ p ∈ nx, p.1 ≠ I) → Fr h₀ env.locals h (fun y => if y = x then some v else m₁ y) → News h₀ env.locals h ((I, oI) :: nx) →
      wpAny (model prog w) A (execs body env) (TurnQ h₀ env.locals I oI (J (i + 1)) { s with heap := h, toks := tk } Q) E { s with heap := h, toks := tk })
    (done : ∀ m₁ nx h tk, J n m₁ nx → Fr h₀ env.locals h m₁ → News h₀ env.locals h nx → Q .next { s with heap := h, toks := tk }) :
    LoopAtV prog w A h₀ env x body Q E (.ref I) s := by
  refine ⟨I, fp, [I], n, P, St, m₀, news, J, rfl, W, hLf, ?_, ?_, hst, F, N, hj, ?_, ?_⟩
  · intro b hb
    rw [List.mem_singleton.mp hb]
    exact hI0
  · intro p hp hI
    exact hoff p hp (List.mem_singleton.mp hI)
  · rintro i v m₁ nx s₁ own ⟨hh', tk', rfl⟩ hin hP hJ hnw hown hget hfp hst' F₁ N₁
    obtain ⟨oI, hoI⟩ := hob _ _ hst'
    have hIf : I ∈ fp := W.sub I (List.mem_singleton.mpr rfl)
    have hIown : (I, oI) ∈ own := hfp I hIf hI0 oI hoI
    have hno : ∀ p ∈ nx, p.1 ≠ I := fun p hp e => hnw p hp (List.mem_singleton.mpr e)
    have N₂ : News h₀ env.locals hh' ((I, oI) :: nx) := fun p hp => by
      rcases List.mem_cons.mp hp with rfl | hp
      · exact N₁ _ (List.mem_append_left _ hIown)
      · exact N₁ _ (List.mem_append_right _ hp)
    refine wpAny_mono (turn i v m₁ nx hh' tk' oI hin hP hJ hno F₁ N₂) (fun f s₂ p => ?_) fun _ _ e => e
    have fin : (∃ h' tk m' nx', s₂ = { ({ s with heap := hh', toks := tk' } : Shared) with heap := h', toks := tk } ∧ Fr h₀ env.locals h' m' ∧ News h₀ env.locals h' ((I, oI) :: nx') ∧ (∀ p ∈ nx', p.1 ≠ I) ∧ J (i + 1) m' nx') →
        LoopStepU h₀ env.locals [I] own (J (i + 1)) { s with heap := hh', toks := tk' } .next s₂ := by
      rintro ⟨h', tk, m', nx', e, F', N', ho, hJ'⟩
      refine ⟨rfl, h', tk, m', nx', e, F', fun p hp => ?_, fun p hp q => ho p hp (List.mem_singleton.mp q), hJ'⟩
      rcases List.mem_append.mp hp with hp | hp
      · by_cases hpI : p.1 = I
        · have h2 := hget p hp
          have h3 : p.2 = oI := by
            have h4 : hh'.get? p.1 = some p.2 := h2
            rw [hpI, hoI] at h4
            exact (Option.some.inj h4).symm
          rw [show p = (I, oI) from Prod.ext hpI h3]
          exact N' _ (.head _)
        · obtain ⟨oa, hoa⟩ := hax p.1 (hown p hp) hpI
          have h2 : hh'.get? p.1 = some p.2 := hget p hp
          have h3 := (N₂ _ (.tail _ (hoa _ _ _ hJ))).1
          have h4 : p.2 = oa := by
            rw [h2] at h3
            exact Option.some.inj h3
          have h5 := N' _ (.tail _ (hoa _ _ _ hJ'))
          rw [← h4] at h5
          exact h5
      · exact N' p (.tail _ hp)
    cases f with
    | ret v => exact .ret p
    | brk => exact .brk p
    | next => exact .next (fin p)
    | cont => exact .cont (fin p)
  · rintro h' tk m' nx' F' N' _ hJ
    exact done m' nx' h' tk hJ F' N'

theorem iter_dictJ {nd : Addr} {od : Obj} {kvs : List (Str × Value)} {m₀ : Str → Option Value} {news : Led} (J : Nat → (Str → Option Value) → Led → Prop)
    (hh : A.handled = none) (lo : (nd == sysModules) = false) (hm : (nd, od) ∈ news) (hd : od.IsDictOf (PySem.strKind prog w) kvs) (F : Fr h₀ env.locals s.heap m₀) (N : News h₀ env.locals s.heap news)
    (hJm : ∀ i m nx, J i m nx → (nd, od) ∈ nx) (hj : J 0 m₀ news)
    (turn : ∀ i k v t m₁ nx h tk I oI, kvs[i]? = some (k, v) → J i m₁ nx → (∀ p ∈ nx, p.1 ≠ I) → Fr h₀ env.locals h (fun y => if y = x then some (.str k t) else m₁ y) → News h₀ env.locals h ((I, oI) :: nx) →
      wpAny (model prog w) A (execs body env) (TurnQ h₀ env.locals I oI (J (i + 1)) { s with heap := h, toks := tk } Q) E { s with heap := h, toks := tk })
    (done : ∀ m₁ nx h tk, J kvs.length m₁ nx → Fr h₀ env.locals h m₁ → News h₀ env.locals h nx → Q .next { s with heap := h, toks := tk }) :
    wpAny (model prog w) A (pyIter (.ref nd)) (fun it s₂ => LoopAtV prog w A h₀ env x body Q E it s₂) E s := by
  obtain ⟨ep, ha⟩ := KdkAt.of hd
  have hlt : nd < s.heap.objs.size := Heap.lt_size (N _ hm).1
  refine wpAny_pyIter_dict lo (ha.dictAt (N _ hm).1) ?_
  have W := Walks.dictKeys (prog := prog) (w := w) (knd := PySem.strKind prog w) hh s.heap.objs.size nd (Nat.ne_of_lt hlt) kvs ep
  refine loop_J (s := { s with heap := _ }) J W (fun i h st => by obtain ⟨o, ho, _⟩ := st.1; exact ⟨o, ho⟩) (next_is_new F) ?_ ?_ ⟨⟨_, Heap.get?_push_size _ rfl, rfl, rfl⟩, (ha.dictAt (Heap.get?_push_of_some _ (N _ hm).1))⟩ (F.push _) (fun p hp => ⟨Heap.get?_push_of_some _ (N p hp).1, (N p hp).2⟩) (fun p hp => Nat.ne_of_lt (Heap.lt_size (N p hp).1)) hj ?_ done
  · intro hmem
    rcases List.mem_cons.mp hmem with e | hmem
    · exact absurd F.ns.lt (e ▸ Nat.lt_irrefl _)
    · exact (N _ hm).2.1 (List.mem_singleton.mp hmem).symm
  · intro b hb hne
    rcases List.mem_cons.mp hb with e | hb
    · exact absurd e hne
    · rw [List.mem_singleton.mp hb]
      exact ⟨od, hJm⟩
  · rintro i v m₁ nx h tk oI hin ⟨k, y, hk, hkv⟩ hJ ho F₁ N₁
    obtain ⟨t, rfl⟩ := PySem.Value.isStrOf_shape hkv
    exact turn i k y t m₁ nx h tk _ oI hk hJ ho F₁ N₁

theorem iter_rangeJ {r : Addr} {a₀ b₀ : Int} {t₀ u₀ v₀ : Tok} {n : Nat} {m₀ : Str → Option Value} {news : Led} (J : Nat → (Str → Option Value) → Led → Prop)
    (hh : A.handled = none) (hr : IsRange s.heap r a₀ b₀ 1 t₀ u₀ v₀) (hsmall : Builtin.Range.small a₀ b₀ 1 = true) (hn : Builtin.Range.rangeSize a₀ b₀ 1 = (n : Int)) (F : Fr h₀ env.locals s.heap m₀) (N : News h₀ env.locals s.heap news) (hj : J 0 m₀ news)
    (turn : ∀ i t m₁ nx h tk I oI, i < n → J i m₁ nx → (∀ p ∈ nx, p.1 ≠ I) → Fr h₀ env.locals h (fun y => if y = x then some (.int (a₀ + (i : Int)) t) else m₁ y) → News h₀ env.locals h ((I, oI) :: nx) →
      wpAny (model prog w) A (execs body env) (TurnQ h₀ env.locals I oI (J (i + 1)) { s with heap := h, toks := tk } Q) E { s with heap := h, toks := tk })
    (done : ∀ m₁ nx h tk, J n m₁ nx → Fr h₀ env.locals h m₁ → News h₀ env.locals h nx → Q .next { s with heap := h, toks := tk }) :
    wpAny (model prog w) A (pyIter (.ref r)) (fun it s₂ => LoopAtV prog w A h₀ env x body Q E it s₂) E s := by
  refine wpAny_pyIter_range hr hsmall ?_
  have W : Walks prog w A s.heap.objs.size [s.heap.objs.size] [s.heap.objs.size] n (fun i v => i < n ∧ ∃ t, v = .int (a₀ + i * 1) t)
      (fun i h => IsRangeIter h s.heap.objs.size (a₀ + (i : Nat) * 1) ((n : Int) - (i : Nat)) 1) := (Walks.range hh _ a₀ 1 n).bound
  refine loop_J (s := { s with heap := _ }) J W (fun i h st => ⟨_, st⟩) (next_is_new F) ?_ ?_ (by show IsRangeIter _ _ _ _ _; rw [hn]; simpa using Heap.get?_push_size _ rfl) (F.push _) (fun p hp => ⟨Heap.get?_push_of_some _ (N p hp).1, (N p hp).2⟩) (fun p hp => Nat.ne_of_lt (Heap.lt_size (N p hp).1)) hj ?_ done
  · intro hm
    exact absurd F.ns.lt ((List.mem_singleton.mp hm) ▸ Nat.lt_irrefl _)
  · intro b hb hne
    exact absurd (List.mem_singleton.mp hb) hne
  · rintro i v m₁ nx h tk oI hin ⟨_, t, rfl⟩ hJ ho F₁ N₁
    have e1 : a₀ + (i : Int) * 1 = a₀ + (i : Int) := by omega
    rw [e1] at F₁
    exact turn i t m₁ nx h tk _ oI hin hJ ho F₁ N₁

theorem iter_listJ {l : Addr} {vs : List Value} {nn : Nat} {m₀ : Str → Option Value} {news : Led} (J : Nat → (Str → Option Value) → Led → Prop)
    (hh : A.handled = none) (hm : (l, listOf vs.toArray nn) ∈ news) (F : Fr h₀ env.locals s.heap m₀) (N : News h₀ env.locals s.heap news)
    (hJm : ∀ i m nx, J i m nx → (l, listOf vs.toArray nn) ∈ nx) (hj : J 0 m₀ news)
    (turn : ∀ i v m₁ nx h tk I oI, vs[i]? = some v → J i m₁ nx → (∀ p ∈ nx, p.1 ≠ I) → Fr h₀ env.locals h (fun y => if y = x then some v else m₁ y) → News h₀ env.locals h ((I, oI) :: nx) →
      wpAny (model prog w) A (execs body env) (TurnQ h₀ env.locals I oI (J (i + 1)) { s with heap := h, toks := tk } Q) E { s with heap := h, toks := tk })
    (done : ∀ m₁ nx h tk, J vs.length m₁ nx → Fr h₀ env.locals h m₁ → News h₀ env.locals h nx → Q .next { s with heap := h, toks := tk }) :
    wpAny (model prog w) A (pyIter (.ref l)) (fun it s₂ => LoopAtV prog w A h₀ env x body Q E it s₂) E s := by
  have hls : s.heap.IsList l vs.toArray := mem_list N hm
  have hlt : l < s.heap.objs.size := Heap.lt_size (N _ hm).1
  refine wpAny_pyIter_list hls ?_
  have W := Walks.list (prog := prog) (w := w) hh s.heap.objs.size l (Nat.ne_of_lt hlt) vs.toArray
  rw [List.size_toArray] at W
  refine loop_J (s := { s with heap := _ }) J W (fun i h st => by obtain ⟨o, ho, _⟩ := st.1; exact ⟨o, ho⟩) (next_is_new F) ?_ ?_ ⟨⟨_, Heap.get?_push_size _ rfl, rfl, rfl⟩, hls.at fun o e => Heap.get?_push_of_some _ e⟩ (F.push _) (fun p hp => ⟨Heap.get?_push_of_some _ (N p hp).1, (N p hp).2⟩) (fun p hp => Nat.ne_of_lt (Heap.lt_size (N p hp).1)) hj ?_ done
  · intro hmem
    rcases List.mem_cons.mp hmem with e | hmem
    · exact absurd F.ns.lt (e ▸ Nat.lt_irrefl _)
    · exact (N _ hm).2.1 (List.mem_singleton.mp hmem).symm
  · intro b hb hne
    rcases List.mem_cons.mp hb with e | hb
    · exact absurd e hne
    · rw [List.mem_singleton.mp hb]
      exact ⟨_, hJm⟩
  · rintro i v m₁ nx h tk oI hin hP hJ ho F₁ N₁
    exact turn i v m₁ nx h tk _ oI (by simpa using hP) hJ ho F₁ N₁
end
/-- what a loop leaves of the frame: the names that it stores may be anything, the rest stands -/
def KeepsM (x : Str) (stored : List Str) (m₀ m' : Str → Option Value) : Prop := ∀ z, z ≠ x → stored.contains z = false → m' z = m₀ z
theorem fr_stored {h₀ h : Heap} {L : Addr} {x : Str} {v : Value} {stored : List Str} {m₀ m₁ : Str → Option Value} (hm : KeepsM x stored m₀ m₁) (F : Fr h₀ L h (fun y => if y = x then some v else m₁ y)) :
    Fr h₀ L h (fun y => if y = x then some v else if stored.contains y then m₁ y else m₀ y) := by
  have e : (fun y => if y = x then some v else m₁ y) = fun y => if y = x then some v else if stored.contains y then m₁ y else m₀ y := by
    funext y
    by_cases h1 : y = x
    · simp [h1]
    · simp only [if_neg h1]
      cases h2 : stored.contains y with
      | true => simp
      | false => simp only [Bool.false_eq_true, if_false]; exact hm y h1 h2
  exact e ▸ F
theorem fr_behind {h₀ h : Heap} {L : Addr} {x : Str} {stored : List Str} {m₀ m₁ : Str → Option Value} (hm : KeepsM x stored m₀ m₁) (F : Fr h₀ L h m₁) :
    Fr h₀ L h (fun y => if y = x then m₁ y else if stored.contains y then m₁ y else m₀ y) := by
  have e : (fun y => if y = x then m₁ y else if stored.contains y then m₁ y else m₀ y) = m₁ := by
    funext y
    by_cases h1 : y = x
    · simp [h1]
    · simp only [if_neg h1]
      cases h2 : stored.contains y with
      | true => simp
      | false => simp only [Bool.false_eq_true, if_false]; exact (hm y h1 h2).symm
  rw [e]
  exact F
section
variable {prog : Program} {w : World} {A : Around} {E : Value → Shared → Prop} {s : Shared} {env : Env} {h₀ : Heap} {x : Str} {body : List Stmt} {Q : Flow → Shared → Prop}
theorem iter_dictS {nd : Addr} {od : Obj} {kvs : List (Str × Value)} {m₀ : Str → Option Value} {news : Led} (stored : List Str) (J : Nat → Led → Prop)
    (hh : A.handled = none) (lo : (nd == sysModules) = false) (hm : (nd, od) ∈ news) (hd : od.IsDictOf (PySem.strKind prog w) kvs) (F : Fr h₀ env.locals s.heap m₀) (N : News h₀ env.locals s.heap news)
    (hJm : ∀ i nx, J i nx → (nd, od) ∈ nx) (hj : J 0 news)
    (turn : ∀ i k v t (u : Str → Option Value) nx h tk I oI, kvs[i]? = some (k, v) → J i nx → (∀ p ∈ nx, p.1 ≠ I) → Fr h₀ env.locals h (fun y => if y = x then some (.str k t) else if stored.contains y then u y else m₀ y) → News h₀ env.locals h ((I, oI) :: nx) →
      wpAny (model prog w) A (execs body env) (TurnQ h₀ env.locals I oI (fun m' nx' => J (i + 1) nx' ∧ KeepsM x stored m₀ m') { s with heap := h, toks := tk } Q) E { s with heap := h, toks := tk })
    (done : ∀ (u : Str → Option Value) nx h tk, J kvs.length nx → Fr h₀ env.locals h (fun y => if y = x then u y else if stored.contains y then u y else m₀ y) → News h₀ env.locals h nx → Q .next { s with heap := h, toks := tk }) :
    wpAny (model prog w) A (pyIter (.ref nd)) (fun it s₂ => LoopAtV prog w A h₀ env x body Q E it s₂) E s := by
  refine iter_dictJ (fun i m nx => J i nx ∧ KeepsM x stored m₀ m) hh lo hm hd F N (fun i m nx h => hJm i nx h.1) ⟨hj, fun _ _ _ => rfl⟩ ?_ ?_
  · rintro i k v t m₁ nx h tk I oI hk ⟨hJ, hm₁⟩ ho F₁ N₁
    exact turn i k v t m₁ nx h tk I oI hk hJ ho (fr_stored hm₁ F₁) N₁
  · rintro m₁ nx h tk ⟨hJ, hm₁⟩ F₁ N₁
    exact done m₁ nx h tk hJ (fr_behind hm₁ F₁) N₁
theorem iter_rangeS {r : Addr} {a₀ b₀ : Int} {t₀ u₀ v₀ : Tok} {n : Nat} {m₀ : Str → Option Value} {news : Led} (stored : List Str) (J : Nat → Led → Prop)
    (hh : A.handled = none) (hr : IsRange s.heap r a₀ b₀ 1 t₀ u₀ v₀) (hsmall : Builtin.Range.small a₀ b₀ 1 = true) (hn : Builtin.Range.rangeSize a₀ b₀ 1 = (n : Int)) (F : Fr h₀ env.locals s.heap m₀) (N : News h₀ env.locals s.heap news) (hj : J 0 news)
    (turn : ∀ i t (u : Str → Option Value) nx h tk I oI, i < n → J i nx → (∀ p ∈ nx, p.1 ≠ I) → Fr h₀ env.locals h (fun y => if y = x then some (.int (a₀ + (i : Int)) t) else if stored.contains y then u y else m₀ y) → News h₀ env.locals h ((I, oI) :: nx) →
      wpAny (model prog w) A (execs body env) (TurnQ h₀ env.locals I oI (fun m' nx' => J (i + 1) nx' ∧ KeepsM x stored m₀ m') { s with heap := h, toks := tk } Q) E { s with heap := h, toks := tk })
    (done : ∀ (u : Str → Option Value) nx h tk, J n nx → Fr h₀ env.locals h (fun y => if y = x then u y else if stored.contains y then u y else m₀ y) → News h₀ env.locals h nx → Q .next { s with heap := h, toks := tk }) :
    wpAny (model prog w) A (pyIter (.ref r)) (fun it s₂ => LoopAtV prog w A h₀ env x body Q E it s₂) E s := by
  refine iter_rangeJ (fun i m nx => J i nx ∧ KeepsM x stored m₀ m) hh hr hsmall hn F N ⟨hj, fun _ _ _ => rfl⟩ ?_ ?_
  · rintro i t m₁ nx h tk I oI hi ⟨hJ, hm₁⟩ ho F₁ N₁
    exact turn i t m₁ nx h tk I oI hi hJ ho (fr_stored hm₁ F₁) N₁
  · rintro m₁ nx h tk ⟨hJ, hm₁⟩ F₁ N₁
    exact done m₁ nx h tk hJ (fr_behind hm₁ F₁) N₁
theorem iter_listS {l : Addr} {vs : List Value} {nn : Nat} {m₀ : Str → Option Value} {news : Led} (stored : List Str) (J : Nat → Led → Prop)
    (hh : A.handled = none) (hm : (l, listOf vs.toArray nn) ∈ news) (F : Fr h₀ env.locals s.heap m₀) (N : News h₀ env.locals s.heap news)
    (hJm : ∀ i nx, J i nx → (l, listOf vs.toArray nn) ∈ nx) (hj : J 0 news)
    (turn : ∀ i v (u : Str → Option Value) nx h tk I oI, vs[i]? = some v → J i nx → (∀ p ∈ nx, p.1 ≠ I) → Fr h₀ env.locals h (fun y => if y = x then some v else if stored.contains y then u y else m₀ y) → News h₀ env.locals h ((I, oI) :: nx) →
      wpAny (model prog w) A (execs body env) (TurnQ h₀ env.locals I oI (fun m' nx' => J (i + 1) nx' ∧ KeepsM x stored m₀ m') { s with heap := h, toks := tk } Q) E { s with heap := h, toks := tk })
    (done : ∀ (u : Str → Option Value) nx h tk, J vs.length nx → Fr h₀ env.locals h (fun y => if y = x then u y else if stored.contains y then u y else m₀ y) → News h₀ env.locals h nx → Q .next { s with heap := h, toks := tk }) :
    wpAny (model prog w) A (pyIter (.ref l)) (fun it s₂ => LoopAtV prog w A h₀ env x body Q E it s₂) E s := by
  refine iter_listJ (fun i m nx => J i nx ∧ KeepsM x stored m₀ m) hh hm F N (fun i m nx h => hJm i nx h.1) ⟨hj, fun _ _ _ => rfl⟩ ?_ ?_
  · rintro i v m₁ nx h tk I oI hv ⟨hJ, hm₁⟩ ho F₁ N₁
    exact turn i v m₁ nx h tk I oI hv hJ ho (fr_stored hm₁ F₁) N₁
  · rintro m₁ nx h tk ⟨hJ, hm₁⟩ F₁ N₁
    exact done m₁ nx h tk hJ (fr_behind hm₁ F₁) N₁
end
/-- the dict's entry at a place, by its key -/
theorem valueAt_of_get {prog : Program} {w : World} {o : Obj} {kvs : List (Str × Value)} (hd : o.IsDictOf (PySem.strKind prog w) kvs) {i : Nat} {k : Str} {v : Value} (h : kvs[i]? = some (k, v)) : valueAt kvs k = some v := by
  have hn : (kvs.map (·.1)).Nodup := by obtain ⟨es, ep, _, _, _, _, hn⟩ := hd; exact hn
  clear hd
  revert i
  induction kvs with
  | nil => intro i h; simp at h
  | cons p r ih =>
    obtain ⟨k', v'⟩ := p
    intro i h
    simp only [List.map_cons, List.nodup_cons] at hn
    cases i with
    | zero =>
      simp only [List.getElem?_cons_zero, Option.some.injEq, Prod.mk.injEq] at h
      obtain ⟨rfl, rfl⟩ := h
      simp [valueAt]
    | succ i =>
      simp only [List.getElem?_cons_succ] at h
      have hne : k' ≠ k := fun e => hn.1 (by rw [e]; exact List.mem_map.mpr ⟨(k, v), List.mem_of_getElem? h, rfl⟩)
      have := ih hn.2 h
      simpa [valueAt, hne] using this
theorem rs_grab : True := by
  w_top off
  trivial
set_option maxRecDepth 100000 in
set_option maxHeartbeats 8000000 in
theorem grab_spec {w : World} {rk sl : Addr} {vs : List Value} {ns : List Int} {k : Int} {tk : Tok} {nn : Nat} {many : Int} {tm : Tok} {n₁ : Nat} {rest : Led}
    (hl : (sl, listOf vs.toArray n₁) ∈ rest) (hi : IntsAre vs ns) (hb : ns.length ≤ 40) (h0 : 0 ≤ k) (hm : 0 < many) (hm2 : many ≤ 16) (hoff : ∀ p ∈ rest, p.1 ≠ rk) :
    Spec w 740 [.ref rk, .int many tm] ((rk, listOf #[.ref sl, .int k tk] nn) :: rest) 4 (fun r news' => ∃ i t t' n', r = .int i t ∧ 0 ≤ i ∧ i < many ∧ news' = (rk, listOf #[.ref sl, .int (k + 1) t'] n') :: rest) := by
  intro dp un gd cn cs a ccd cl outer A₀ base h₀ L m s mean mg mb Q E B F X N T hk hd hu hret
  have hvl := hi.length
  refine wpAny_call ?_
  k_dflt (refine' code_def (binds := [(Str.ofString "rack", .ref rk), (Str.ofString "many", .int many tm)]) ?k1 ?k2 ?k3 ?k4 ?k5 ?kA ?kF ?kK ?k6 ?k7 ?k8 ?k9 ?kB ?_ ?c2 ?c3 ?c4 ?c5; k_extra "m def")
  repeat' (first | (k_unfold; (try dsimp only)) | k_extra "r macros_1" | (k_end; kc_close) | walk1 | (dsimp only; walk1) | (leave1; walk_say "STEP leave1"; (try dsimp only)))
  all_goals exact hret _ _ _ _ (by with_reducible assumption) (by with_reducible assumption) (exI4 ⟨rfl, fmod_lo _ hm, fmod_hi _ hm, rfl⟩)
theorem rs_comps : True := by
  w_top off
  trivial
/-- behind a turn of a block: the block's three objects as they stood, J of the rest -/
def CompQ (h₀ : Heap) (L : Addr) (m : Str → Option Value) (I : Addr) (oI : Obj) (C : Addr) (oC : Obj) (D : Addr) (ys : List Value) (J : Led → Prop) (s₁ s₂ : Shared) : Prop :=
  ∃ h' tk nx, s₂ = { s₁ with heap := h', toks := tk } ∧ Fr h₀ L h' m ∧ News h₀ L h' ((I, oI) :: (C, oC) :: (D, LCg.lst ys) :: nx) ∧ LCg.Off3 I C D nx ∧ J nx
/-- one turn of a block with tests: J i ys nx says what is built (ys) and what the ledger is (nx) behind i turns -/
def CompTurn (prog : Program) (w : World) (A : Around) (h₀ : Heap) (L : Addr) (m : Str → Option Value) (env : Env) (elt : Expr) (ifs : List Expr) (x : Str) (scope : Scope) (cl : List (Str × Addr)) (s : Shared) (P : Nat → Value → Prop) (n : Nat) (J : Nat → List Value → Led → Prop) : Prop :=
  ∀ i v ys nx I oI C oC D m₂ h tk (E' : Value → Shared → Prop), i < n → P i v → J i ys nx → LCg.NsObj oC m₂ → m₂ x = some v → Fr h₀ L h m → News h₀ L h ((I, oI) :: (C, oC) :: (D, LCg.lst ys) :: nx) → LCg.Off3 I C D nx → ((@Ne Nat I C) ∧ (@Ne Nat I D) ∧ (@Ne Nat C D)) →
    wpAny (model prog w) A (forIn ifs true fun c r => if r = true then do let ok ← isTrue c (compEnvC scope cl C env) (eval c (compEnvC scope cl C env)); pure (ForInStep.yield ok) else pure (ForInStep.yield r))
      (fun ok s₃ => if ok = true then wpAny (model prog w) A (eval elt (compEnvC scope cl C env)) (fun y s₄ => CompQ h₀ L m I oI C oC D ys (J (i + 1) (ys ++ [y])) s s₄) E' s₃ else CompQ h₀ L m I oI C oC D ys (J (i + 1) ys) s s₃) E' { s with heap := h, toks := tk }
section
variable {prog : Program} {w : World} {A : Around} {E : Value → Shared → Prop} {s : Shared} {h₀ : Heap} {L : Addr} {m : Str → Option Value} {env : Env}
theorem comp_J {elt iter : Expr} {ifs : List Expr} {x : Str} {px : Pos} {scope : Scope} {cl : List (Str × Addr)} {pos : Pos} {s₂ : Shared} {I : Addr} {fp : List Addr} {n : Nat} {P : Nat → Value → Prop} {St : Nat → Heap → Prop} {news : Led} {RR : Value → Addr → Result → Shared → Prop}
    (J : Nat → List Value → Led → Prop) (W : Walks prog w A I fp [I] n P St) (hsz : n ≤ sizeLine) (hIo : ∀ i h, St i h → ∃ o, h.get? I = some o)
    (hSt : ∀ i h h' o k ys nx, St i h → h.get? I = some o → h'.get? I = some o → J k ys nx → News h₀ L h' nx → St i h')
    (hcell : ∀ y ∈ scope.names, y.2 ≠ .cell) (hkind : scope.kind = .function) (hx : scope.names.lookup x = some .local) (hst : St 0 s₂.heap) (hfp : ∀ b ∈ fp, b < s₂.heap.objs.size)
    (F : Fr h₀ L s₂.heap m) (N : News h₀ L s₂.heap news) (hIL : L ≠ I) (hI₀ : h₀.get? I = none) (off : ∀ p ∈ news, p.1 ≠ I) (hlen : ∀ i ys nx, J i ys nx → ys.length ≤ i) (h0 : J 0 [] news)
    (turn : CompTurn prog w A h₀ L m env elt ifs x scope cl s₂ P n J)
    (hRR : ∀ D C h tk m' ys nx, Fr h₀ L h m → News h₀ L h ((D, LCg.lst ys) :: nx) → LCg.Off1 D nx → h.Ns C m' → h₀.get? C = none → h₀.get? D = none → C ≠ L → D ≠ L → C ≠ D → (∀ p ∈ nx, p.1 ≠ C) → J n ys nx → RR (.ref D) C (.ok .next) { s₂ with heap := h, toks := tk }) :
    wpAny (model prog w) A (newList []) (fun acc s₃ => wpAny (model prog w) A (newFunctionEnv scope env.globals cl [] env.qual none .none (some env)) (fun cenv s₄ =>
      codeAny (model prog w) A (.compStart (.ListComp elt [⟨.Name x px, iter, ifs, 0⟩] scope pos) 0 (.ref I) acc { cenv with scope := relabel scope env }) (RR acc cenv.locals) s₄) E s₃) E s₂ := by
  refine wpAny_newObj_type (wpAny_newFunctionEnv hcell (by intro y hy; simp at hy) (fun h₁ hns₁ hsb₁ => ?_) hkind)
  dsimp only at hns₁ hsb₁ ⊢
  generalize hH2 : s₂.heap.push { cls := .type "list", dict := none, data := .seq ([] : List Value).toArray } = H2 at hns₁ hsb₁ ⊢
  have zC : H2.objs.size = s₂.heap.objs.size + 1 := by rw [← hH2, Heap.size_push]
  have neDC : s₂.heap.objs.size ≠ H2.objs.size := by rw [zC]; exact Nat.ne_of_lt (Nat.lt_succ_self _)
  have low : ∀ b, b < s₂.heap.objs.size → b ≠ H2.objs.size ∧ b ≠ s₂.heap.objs.size := fun b hb => ⟨by rw [zC]; exact Nat.ne_of_lt (Nat.lt_succ_of_lt hb), Nat.ne_of_lt hb⟩
  have hDf : s₂.heap.objs.size ∉ fp := fun hm => Nat.lt_irrefl _ (hfp _ hm)
  have hCf : H2.objs.size ∉ fp := fun hm => by have := hfp _ hm; rw [zC] at this; exact Nat.lt_irrefl _ (Nat.lt_of_succ_lt this)
  have hIlt : I < s₂.heap.objs.size := hfp I (W.sub I (List.mem_singleton.mpr rfl))
  have old : ∀ b o, s₂.heap.get? b = some o → h₁.get? b = some o := fun b o e => hsb₁.extBut b o (low b (Heap.lt_size e)).1 (Heap.get?_push_of_some _ (hH2 ▸ Heap.get?_push_of_some _ e))
  have hacc : h₁.get? s₂.heap.objs.size = some (LCg.lst []) := hsb₁.extBut _ _ neDC (Heap.get?_push_of_some _ (hH2 ▸ Heap.get?_push_size _ rfl))
  have hst₁ : St 0 h₁ := W.frame _ _ _ hst fun b _ o e => old b o e
  have fresh₀ : ∀ a, s₂.heap.objs.size ≤ a → h₀.get? a = none := fun a ha => by
    cases e : h₀.get? a with
    | none => rfl
    | some o' => exact absurd (Heap.lt_size (F.keep a o' e)) (Nat.not_lt.mpr ha)
  have hD₀ : h₀.get? s₂.heap.objs.size = none := fresh₀ _ (Nat.le_refl _)
  have hC₀ : h₀.get? H2.objs.size = none := fresh₀ _ (by rw [zC]; exact Nat.le_succ _)
  have hLlt : L < s₂.heap.objs.size := F.ns.lt
  have hDL : s₂.heap.objs.size ≠ L := Ne.symm (low L hLlt).2
  have hCL : H2.objs.size ≠ L := Ne.symm (low L hLlt).1
  have hCI : I ≠ H2.objs.size := (low I hIlt).1
  have hDI : I ≠ s₂.heap.objs.size := (low I hIlt).2
  have off₀ : LCg.Off3 I H2.objs.size s₂.heap.objs.size news := LCg.Off3.of fun p hp => ⟨off p hp, (low _ (Heap.lt_size (N p hp).1)).1, (low _ (Heap.lt_size (N p hp).1)).2⟩
  have loop : ∀ s₃ : Shared, s₃ = { s₂ with heap := h₁, toks := s₂.toks + ([] : List (Str × Value)).length } →
      codeAny (model prog w) A (.compLoop (.ListComp elt [⟨.Name x px, iter, ifs, 0⟩] scope pos) 0 (.ref I) (.ref s₂.heap.objs.size) (compEnvC scope cl H2.objs.size env))
        (RR (.ref s₂.heap.objs.size) H2.objs.size) s₃ := by
    rintro s₃ rfl
    refine codeAny_compLoop_tests
      (fun k s' => ∃ h' tk i ys m' nx, s' = { s₂ with heap := h', toks := tk } ∧ i ≤ n ∧ k = n + 1 - i ∧ St i h' ∧ Fr h₀ L h' m ∧ h'.Ns H2.objs.size m' ∧ News h₀ L h' ((s₂.heap.objs.size, LCg.lst ys) :: nx) ∧ LCg.Off3 I H2.objs.size s₂.heap.objs.size nx ∧ J i ys nx) ?_ (n + 1)
      ⟨h₁, _, 0, [], _, news, rfl, Nat.zero_le _, rfl, hst₁, F.keeps old, hns₁, fun p hp => ?_, off₀, h0⟩
    · rintro k s' ⟨h', tk, i, ys, m', nx, rfl, hi, rfl, hst', F', hn', N', off', hJ⟩
      have o3 := off'.mem
      by_cases hlt : i < n
      · refine W.item i _ _ _ hlt hst' fun v h₂ tk₂ hPv hst₂ hk₂ => ?_
        refine wpAny_assign_Name (wpAny_storeName_local (lookup_relabel_local hx) (hn'.at' fun o e => hk₂ _ o (by simpa using Ne.symm hCI) e) (fun h₃ hn₃ hs₃ => ?_) (by simp [compEnvC, relabel, hkind]))
        have hst₃ : St (i + 1) h₃ := W.frame _ _ _ hst₂ fun b hb o e => hs₃.extBut b o (fun q => hCf (by have q' : b = H2.objs.size := q; rw [← q']; exact hb)) e
        obtain ⟨oI, heI⟩ := hIo _ _ hst₃
        obtain ⟨oC, heC, hoC⟩ := LCg.ns_obj hn₃
        have F₃ : Fr h₀ L h₃ m := (LCg.fr_but F' hk₂ hIL hI₀).change hs₃ hCL hC₀
        have N₂ : News h₀ L h₂ ((s₂.heap.objs.size, LCg.lst ys) :: nx) := LCg.news_but N' hk₂ fun p hp => by
          rcases List.mem_cons.mp hp with rfl | hp
          · exact Ne.symm hDI
          · exact (o3 p hp).1
        have N₃ : News h₀ L h₃ ((I, oI) :: (H2.objs.size, oC) :: (s₂.heap.objs.size, LCg.lst ys) :: nx) := fun p hp => by
          rcases List.mem_cons.mp hp with rfl | hp
          · exact ⟨heI, Ne.symm hIL, hI₀⟩
          · rcases List.mem_cons.mp hp with rfl | hp
            · exact ⟨heC, hCL, hC₀⟩
            · have z := N₂ p hp
              refine ⟨hs₃.extBut _ _ ?_ z.1, z.2⟩
              rcases List.mem_cons.mp hp with rfl | hp
              · exact neDC
              · exact (o3 p hp).2.1
        have next : ∀ {s₄ : Shared} {zs : List Value}, CompQ h₀ L m I oI H2.objs.size oC s₂.heap.objs.size ys (J (i + 1) zs) s₂ s₄ → ∃ h₄ tk₄ nx₄, s₄ = { s₂ with heap := h₄, toks := tk₄ } ∧ St (i + 1) h₄ ∧ Fr h₀ L h₄ m ∧ (∃ m₄, h₄.Ns H2.objs.size m₄) ∧
            News h₀ L h₄ ((s₂.heap.objs.size, LCg.lst ys) :: nx₄) ∧ LCg.Off3 I H2.objs.size s₂.heap.objs.size nx₄ ∧ J (i + 1) zs nx₄ := by
          rintro s₄ zs ⟨h₄, tk₄, nx₄, rfl, F₄, N₄, off₄, J₄⟩
          have zI := (N₄ _ (.head _)).1
          have zC' := (N₄ _ (.tail _ (.head _))).1
          exact ⟨h₄, tk₄, nx₄, rfl, hSt _ _ _ _ _ _ _ hst₃ heI zI J₄ (fun p hp => N₄ p (.tail _ (.tail _ (.tail _ hp)))), F₄, ⟨_, hoC.ns zC'⟩, fun p hp => N₄ p (.tail _ (.tail _ hp)), off₄, J₄⟩
        refine wpAny_mono (turn i v ys nx I oI H2.objs.size oC s₂.heap.objs.size _ h₃ _ _ hlt hPv hJ hoC (by simp) F₃ N₃ off' ⟨hCI, hDI, Ne.symm neDC⟩) (fun ok s₃ hok => ?_) fun _ _ e => e
        cases ok with
        | false =>
          rw [if_neg Bool.false_ne_true] at hok ⊢
          obtain ⟨h₄, tk₄, nx₄, rfl, st₄, F₄, ⟨m₄, hn₄⟩, N₄, off₄, J₄⟩ := next hok
          exact ⟨n + 1 - (i + 1), by omega, h₄, tk₄, i + 1, ys, m₄, nx₄, rfl, hlt, rfl, st₄, F₄, hn₄, N₄, off₄, J₄⟩
        | true =>
          rw [if_pos rfl] at hok ⊢
          refine wpAny_mono hok (fun y s₄ h₄ => ?_) fun _ _ e => e
          obtain ⟨h₄, tk₄, nx₄, rfl, st₄, F₄, ⟨m₄, hn₄⟩, N₄, off₄, J₄⟩ := next h₄
          have zD := (N₄ _ (.head _)).1
          have hyl := hlen _ _ _ hJ
          refine append_at (hsz := by show ys.toArray.size ≤ sizeLine; rw [List.size_toArray]; exact Nat.le_trans hyl (Nat.le_trans hi hsz)) zD fun h₅ hs₅ hD₅ => ?_
          have o4 := off₄.mem
          refine ⟨n + 1 - (i + 1), by omega, h₅, tk₄, i + 1, ys ++ [y], m₄, nx₄, rfl, hlt, rfl, W.frame _ _ _ st₄ fun b hb o e => hs₅.extBut b o (fun q => hDf (q ▸ hb)) e, F₄.change hs₅ hDL hD₀, hn₄.sameBut hs₅ (Ne.symm neDC), fun p hp => ?_, off₄, J₄⟩
          rcases List.mem_cons.mp hp with rfl | hp
          · exact ⟨hD₅.trans (congrArg some (LCg.lst_snoc ys y)), hDL, hD₀⟩
          · have z := N₄ p (.tail _ hp)
            exact ⟨hs₅.extBut _ _ (o4 p hp).2.2 z.1, z.2⟩
      · obtain rfl : i = n := Nat.le_antisymm hi (Nat.not_lt.mp hlt)
        refine W.done _ _ _ hst' fun h₂ tk₂ hk₂ => ?_
        exact hRR _ _ h₂ tk₂ _ ys nx (LCg.fr_but F' hk₂ hIL hI₀) (LCg.news_but N' hk₂ fun p hp => by
          rcases List.mem_cons.mp hp with rfl | hp
          · exact Ne.symm hDI
          · exact (o3 p hp).1) off'.one (hn'.at' fun o e => hk₂ _ o (by simpa using Ne.symm hCI) e) hC₀ hD₀ hCL hDL (Ne.symm neDC) (fun p hp => (o3 p hp).2.1) hJ
    · rcases List.mem_cons.mp hp with rfl | hp
      · exact ⟨hacc, hDL, hD₀⟩
      · exact ⟨old _ _ (N p hp).1, (N p hp).2⟩
  exact codeAny_compStart_list (loop _ rfl) (W.self 0 _ _ _ hst₁ (loop _ rfl))

/-- what a block walks: a list of the ledger, or a range -/
inductive CompSrcJ (prog : Program) (w : World) (A : Around) (h₀ : Heap) (L : Addr) (m : Str → Option Value) (env : Env) (elt : Expr) (ifs : List Expr) (x : Str) (scope : Scope) (cl : List (Str × Addr)) (Fin : Shared → List Value → Led → Prop) (xv : Value) (s₁ : Shared) : Prop
  | list {ax : Addr} {its : List Value} {k : Nat} {news : Led} (J : Nat → List Value → Led → Prop) (e : xv = .ref ax) (hh : A.handled = none) (F : Fr h₀ L s₁.heap m) (N : News h₀ L s₁.heap news) (hm : ∀ i ys nx, J i ys nx → (ax, listOf its.toArray k) ∈ nx)
      (hsz : its.length ≤ sizeLine) (hlen : ∀ i ys nx, J i ys nx → ys.length ≤ i) (h0 : J 0 [] news) (turn : ∀ g, CompTurn prog w A h₀ L m env elt ifs x scope cl { s₁ with heap := g } (fun i v => its[i]? = some v) its.length J)
      (fin : ∀ g ys nx, J its.length ys nx → Fin { s₁ with heap := g } ys nx) : CompSrcJ prog w A h₀ L m env elt ifs x scope cl Fin xv s₁
  | range {r : Addr} {a b : Int} {t u v : Tok} {n : Nat} {news : Led} (J : Nat → List Value → Led → Prop) (e : xv = .ref r) (hh : A.handled = none) (F : Fr h₀ L s₁.heap m) (N : News h₀ L s₁.heap news) (hr : IsRange s₁.heap r a b 1 t u v) (hsm : Builtin.Range.small a b 1 = true)
      (hn : Builtin.Range.rangeSize a b 1 = ((n : Nat) : Int)) (hsz : n ≤ sizeLine) (hlen : ∀ i ys nx, J i ys nx → ys.length ≤ i) (h0 : J 0 [] news)
      (turn : ∀ g, CompTurn prog w A h₀ L m env elt ifs x scope cl { s₁ with heap := g } (fun i v => ∃ t, v = .int (a + (i : Int)) t) n J)
      (fin : ∀ g ys nx, J n ys nx → Fin { s₁ with heap := g } ys nx) : CompSrcJ prog w A h₀ L m env elt ifs x scope cl Fin xv s₁

theorem comp_run {elt iter : Expr} {ifs : List Expr} {x : Str} {px : Pos} {scope : Scope} {cl : List (Str × Addr)} {pos : Pos} {Fin : Shared → List Value → Led → Prop} {RR : Value → Addr → Result → Shared → Prop} {xv : Value} {s₁ : Shared}
    (hcell : ∀ y ∈ scope.names, y.2 ≠ .cell) (hkind : scope.kind = .function) (hx : scope.names.lookup x = some .local) (h : CompSrcJ prog w A h₀ L m env elt ifs x scope cl Fin xv s₁)
    (hRR : ∀ (s₂ : Shared) D C h tk m' ys nx, (∃ g, s₂ = { s₁ with heap := g }) → Fr h₀ L h m → News h₀ L h ((D, LCg.lst ys) :: nx) → LCg.Off1 D nx → h.Ns C m' → h₀.get? C = none → h₀.get? D = none → C ≠ L → D ≠ L → C ≠ D → (∀ p ∈ nx, p.1 ≠ C) → Fin s₂ ys nx → RR (.ref D) C (.ok .next) { s₂ with heap := h, toks := tk }) :
    wpAny (model prog w) A (pyIter xv) (fun it s₂ => wpAny (model prog w) A (newList []) (fun acc s₃ => wpAny (model prog w) A (newFunctionEnv scope env.globals cl [] env.qual none .none (some env)) (fun cenv s₄ =>
      codeAny (model prog w) A (.compStart (.ListComp elt [⟨.Name x px, iter, ifs, 0⟩] scope pos) 0 it acc { cenv with scope := relabel scope env }) (RR acc cenv.locals) s₄) E s₃) E s₂) E s₁ := by
  cases h with
  | @list ax its k news J e hh F N hm hsz hlen h0 turn fin =>
    subst e
    have hl : s₁.heap.IsList ax its.toArray := mem_list N (hm _ _ _ h0)
    have hlt : ax < s₁.heap.objs.size := Heap.lt_size (N _ (hm _ _ _ h0)).1
    refine wpAny_pyIter_list hl ?_
    have up : ∀ b o, s₁.heap.get? b = some o → (s₁.heap.push { cls := .type "list_iterator", data := .fields #[.ref ax, .int 0 0] }).get? b = some o := fun b o e => Heap.get?_push_of_some _ e
    have W := Walks.list (prog := prog) (w := w) hh s₁.heap.objs.size ax (Nat.ne_of_lt hlt) its.toArray
    rw [show its.toArray.size = its.length from rfl] at W
    refine comp_J (s₂ := { s₁ with heap := _ }) (P := fun i v => its[i]? = some v) J ⟨W.sub, W.frame, fun i s Q E hi st hQ => W.item i s Q E hi st fun v h' tk hP => hQ v h' tk (by simpa using hP), W.done, W.self⟩ hsz (fun i h st => by obtain ⟨o, e, _⟩ := st.1; exact ⟨o, e⟩) ?_ hcell hkind hx
      ⟨⟨_, Heap.get?_push_size _ rfl, rfl, rfl⟩, hl.push _⟩ (fun b hb => ?_) (F.keeps up) (N.grown up) (Nat.ne_of_lt F.ns.lt) (next_is_new F) (fun p hp => Nat.ne_of_lt (Heap.lt_size (N p hp).1)) hlen h0 (turn _) ?_
    · rintro i h h' o k' ys nx st e e' hJ N'
      refine ⟨?_, mem_list N' (hm _ _ _ hJ)⟩
      obtain ⟨o', q, r⟩ := st.1
      rw [e] at q
      cases q
      exact ⟨o, e', r⟩
    · show b < (s₁.heap.push _).objs.size
      rw [Heap.size_push]
      rcases List.mem_cons.mp hb with rfl | hb
      · exact Nat.lt_succ_self _
      · rw [List.mem_singleton.mp hb]; exact Nat.lt_succ_of_lt hlt
    · intro D C h tk m' ys nx F' N' o1 hn c1 c2 c3 c4 c5 c6 hJ
      exact hRR _ D C h tk m' ys nx ⟨_, rfl⟩ F' N' o1 hn c1 c2 c3 c4 c5 c6 (fin _ _ _ hJ)
  | @range r a b t u v n news J e hh F N hr hsm hn hsz hlen h0 turn fin =>
    subst e
    refine wpAny_pyIter_range hr hsm ?_
    refine comp_J (s₂ := { s₁ with heap := _ }) J (LCg.range_walks hh a n) hsz (fun i h st => ⟨_, st⟩) ?_ hcell hkind hx (by show IsRangeIter _ _ _ _ _; rw [hn]; simpa using Heap.get?_push_size _ rfl) (fun b hb => ?_)
      (F.keeps fun _ _ e => Heap.get?_push_of_some _ e) (N.grown fun _ _ e => Heap.get?_push_of_some _ e) (Nat.ne_of_lt F.ns.lt) (next_is_new F) (fun p hp => Nat.ne_of_lt (Heap.lt_size (N p hp).1)) hlen h0 (turn _) ?_
    · rintro i h h' o k' ys nx st e e' hJ N'
      have st' : h.get? _ = some _ := st
      show h'.get? _ = some _
      rw [e', ← e]; exact st'
    · rw [List.mem_singleton.mp hb]
      show s₁.heap.objs.size < (s₁.heap.push _).objs.size
      rw [Heap.size_push]; exact Nat.lt_succ_self _
    · intro D C h tk m' ys nx F' N' o1 hn c1 c2 c3 c4 c5 c6 hJ
      exact hRR _ D C h tk m' ys nx ⟨_, rfl⟩ F' N' o1 hn c1 c2 c3 c4 c5 c6 (fin _ _ _ hJ)

theorem comp_eval {elt iter : Expr} {ifs : List Expr} {x : Str} {px : Pos} {scope : Scope} {cl : List (Str × Addr)} {pos : Pos} {Q : Value → Shared → Prop} (_F₀ : Fr h₀ L s.heap m)
    (hclos : closureFor scope env = pure cl) (hcell : ∀ y ∈ scope.names, y.2 ≠ .cell) (hkind : scope.kind = .function)
    (hnames : ∀ y ∈ scope.names, y.2 = .local → scope.names.lookup y.1 = some .local) (hx : scope.names.lookup x = some .local)
    (h : wpAny (model prog w) A (eval iter env) (CompSrcJ prog w A h₀ L m env elt ifs x scope cl (fun s₂ => LCg.FinE h₀ L m s₂ Q)) E s)
    (hs : ∀ x, foldedSetIterable iter env x = pure x) :
    wpAny (model prog w) A (eval (.ListComp elt [⟨.Name x px, iter, ifs, 0⟩] scope pos) env) Q E s := by
  rw [eval_ListComp]
  refine wpAny_comprehension_free (use := none) rfl hs hclos hkind hnames (wpAny_mono h (fun xv s₁ h₁ => comp_run hcell hkind hx h₁ ?_) fun _ _ e => e)
  rintro s₂ D C h' tk m' ys nx ⟨g, rfl⟩ F' N' o1 hn c1 c2 c3 c4 c5 c6 fin
  refine ⟨m', hn, fun h'' hs'' => fin D h'' tk (F'.change hs'' c3 c1) (fun p hp => ?_) o1⟩
  refine ⟨hs''.extBut _ _ ?_ (N' p hp).1, (N' p hp).2⟩
  rcases List.mem_cons.mp hp with rfl | hp
  · exact Ne.symm c5
  · exact c6 p hp

theorem comp_assign {elt iter : Expr} {ifs : List Expr} {x y : Str} {px py : Pos} {scope : Scope} {cl : List (Str × Addr)} {pos spos : Pos} {Q : Flow → Shared → Prop} (_F₀ : Fr h₀ L s.heap m) (hLe : env.locals = L)
    (hsw : swapsWith (.ListComp elt [⟨.Name x px, iter, ifs, 0⟩] scope pos) (some (.Name y py)) spos.line env = pure true)
    (hclos : closureFor scope env = pure cl) (hcell : ∀ z ∈ scope.names, z.2 ≠ .cell) (hkind : scope.kind = .function)
    (hnames : ∀ z ∈ scope.names, z.2 = .local → scope.names.lookup z.1 = some .local) (hx : scope.names.lookup x = some .local)
    (hy : env.kindOf y = some .local) (hp : (env.scope.kind == .class || (env.scope.kind == .module && env.locals != env.globals)) = false)
    (h : wpAny (model prog w) A (eval iter env) (CompSrcJ prog w A h₀ L m env elt ifs x scope cl (fun s₂ => LCg.FinA h₀ L m s₂ y Q)) E s)
    (hs : ∀ x, foldedSetIterable iter env x = pure x) :
    wpAny (model prog w) A (exec (.Assign [.Name y py] (.ListComp elt [⟨.Name x px, iter, ifs, 0⟩] scope pos) spos) env) Q E s := by
  subst hLe
  rw [exec_Assign_Name_used _ _ _ _ hsw]
  refine wpAny_bind (wpAny_standAt (wpAny_bind ?_))
  show wpAny _ A (do let _ ← comprehension (.ListComp elt [⟨.Name x px, iter, ifs, 0⟩] scope pos) scope env _ (newList []) false (eval iter env) (some (assign (.Name y py) env))) _ _ s
  refine wpAny_bind (wpAny_mono (wpAny_comprehension_free (use := some (assign (.Name y py) env)) (Q := fun _ s' => Q .next s') rfl hs hclos hkind hnames
    (wpAny_mono h (fun xv s₁ h₁ => comp_run hcell hkind hx h₁ ?_) fun _ _ e => e)) (fun _ s' hq => wpAny_pure (wpAny_pure hq)) fun _ _ e => e)
  rintro s₂ D C h' tk m' ys nx ⟨g, rfl⟩ F' N' o1 hn c1 c2 c3 c4 c5 c6 fin
  show wpAny _ A (assign (.Name y py) env (.ref D)) _ _ _
  refine wpAny_assign_Name (wpAny_storeName_local hy F'.ns (fun h₂ hn₂ hs₂ => ?_) hp)
  have hL₀ : h₀.get? env.locals = none := Heap.get?_none_of_le F'.above
  have F₂ : Fr h₀ env.locals h₂ (fun z => if z = y then some (.ref D) else m z) := ⟨hn₂, fun b o e => hs₂.extBut b o (fun q => by rw [q, hL₀] at e; cases e) (F'.keep b o e), F'.above⟩
  refine ⟨m', hn.sameBut hs₂ c3, fun h'' hs'' => fin D h'' _ (F₂.change hs'' c3 c1) (fun p hp => ?_) o1⟩
  have z : h₂.get? p.1 = some p.2 := hs₂.extBut _ _ (N' p hp).2.1 (N' p hp).1
  refine ⟨hs''.extBut _ _ ?_ z, (N' p hp).2⟩
  rcases List.mem_cons.mp hp with rfl | hp
  · exact Ne.symm c5
  · exact c6 p hp
end
theorem ld_cellC {M : Model} {A : Around} {E : Value → Shared → Prop} {s : Shared} {h₀ : Heap} {L C c : Addr} {news : Led} {scope : Scope} {cl : List (Str × Addr)} {env : Env} {x : Str} {pos : Pos} {v : Value} {o : Obj} {Q : Value → Shared → Prop}
    (N : News h₀ L s.heap news) (hc : cl.lookup x = some c) (hm : (c, o) ∈ news) (hd : o.data = .cell (some v)) (h : Q v s)
    (hk : (compEnvC scope cl C env).scope.kind = .function) (hx : (compEnvC scope cl C env).kindOf x = some .cell) (hb : (x == ("__debug__" : Str)) = false) :
    wpAny M A (eval (.Name x pos) (compEnvC scope cl C env)) Q E s := wpAny_Name (wpAny_loadName_cell hk hx hc ⟨o, N.get hm, hd⟩ h) hb
theorem rs_gtext : True := by
  w_top off
  trivial
set_option maxRecDepth 100000 in
set_option maxHeartbeats 8000000 in
theorem group_text_none {w : World} {tm ga : Addr} {text : Str} {tt : Tok} {gv : List Value} {gn : Nat} {i : Int} {ti : Tok} {news : Led}
    (h1 : (tm, tupO [.str text tt, .ref ga]) ∈ news) (h2 : (ga, listOf gv.toArray gn) ∈ news) (hl : gv.length ≤ 5) (h0 : 0 ≤ i) (hi : i < gv.length) (hx : gv[i.toNat]? = some .none) :
    Spec w 333 [.ref tm, .int i ti] news 4 (fun r news' => r = .none ∧ news' = news) := by
  intro dp un gd cn cs a ccd cl outer A₀ base h₀ L m s mean mg mb Q E B F X N T hk hd hu hret
  refine wpAny_call ?_
  k_dflt (refine' code_def (binds := [(Str.ofString "match", .ref tm), (Str.ofString "number", .int i ti)]) ?k1 ?k2 ?k3 ?k4 ?k5 ?kA ?kF ?kK ?k6 ?k7 ?k8 ?k9 ?kB ?_ ?c2 ?c3 ?c4 ?c5; k_extra "m def")
  repeat' (first | (k_unfold; (try dsimp only)) | k_extra "r macros_1" | (k_end; kc_close) | walk1 | (dsimp only; walk1) | (leave1; walk_say "STEP leave1"; (try dsimp only)))
  all_goals exact hret _ _ _ _ (by with_reducible assumption) (by with_reducible assumption) ⟨rfl, rfl⟩
set_option maxRecDepth 100000 in
set_option maxHeartbeats 8000000 in
theorem group_text_some {w : World} {tm ga p : Addr} {text : Str} {tt tb te : Tok} {gv : List Value} {gn : Nat} {i b e : Int} {ti : Tok} {news : Led}
    (h1 : (tm, tupO [.str text tt, .ref ga]) ∈ news) (h2 : (ga, listOf gv.toArray gn) ∈ news) (hl : gv.length ≤ 5) (h0 : 0 ≤ i) (hi : i < gv.length) (hx : gv[i.toNat]? = some (.ref p)) (h3 : (p, tupO [.int b tb, .int e te]) ∈ news)
    (hb : 0 ≤ b) (hbe : b ≤ e) (he : e ≤ text.length) (ht : text.length ≤ 8) :
    Spec w 333 [.ref tm, .int i ti] news 4 (fun r news' => (∃ t, r = .str (Txt.slice text (some b) (some e)) t) ∧ news' = news) := by
  intro dp un gd cn cs a ccd cl outer A₀ base h₀ L m s mean mg mb Q E B F X N T hk hd hu hret
  refine wpAny_call ?_
  k_dflt (refine' code_def (binds := [(Str.ofString "match", .ref tm), (Str.ofString "number", .int i ti)]) ?k1 ?k2 ?k3 ?k4 ?k5 ?kA ?kF ?kK ?k6 ?k7 ?k8 ?k9 ?kB ?_ ?c2 ?c3 ?c4 ?c5; k_extra "m def")
  repeat' (first | (k_unfold; (try dsimp only)) | k_extra "r macros_1" | (k_end; kc_close) | walk1 | (dsimp only; walk1) | (leave1; walk_say "STEP leave1"; (try dsimp only)))
  all_goals exact hret _ _ _ _ (by with_reducible assumption) (by with_reducible assumption) ⟨⟨_, rfl⟩, rfl⟩
theorem group_text_spec {w : World} {M : MD} (ok : M.Ok) {tm ga : Addr} {tt : Tok} {i : Int} {ti : Tok} {news : Led}
    (h1 : (tm, tupO [.str M.text tt, .ref ga]) ∈ news) (h2 : GRep news ga M) (h0 : 0 ≤ i) (hi : i < M.gs.length) :
    Spec w 333 [.ref tm, .int i ti] news 4 (fun r news' => OptStr r (M.cut i) ∧ news' = news) := by
  obtain ⟨gv, gn, hg, hgl, hall⟩ := h2
  have hlt : i.toNat < M.gs.length := by omega
  obtain ⟨v, hv, hG⟩ := hall i.toNat _ (List.getElem?_eq_getElem hlt)
  have hc : M.gs[i.toNat]? = some M.gs[i.toNat] := List.getElem?_eq_getElem hlt
  generalize hgg : M.gs[i.toNat] = g at hG hc
  cases g with
  | none =>
    have hv' : gv[i.toNat]? = some .none := by rw [hv]; exact congrArg some hG
    intro dp un gd cn cs a ccd cl outer A₀ base h₀ L m s mean mg mb Q E B F X N T hk hd hu hret
    refine (group_text_none h1 hg (by rw [hgl]; exact ok.glen) h0 (by rw [hgl]; exact hi) hv').use B F X N T hk hd hu fun r news' h' tk' F' N' hP => hret r news' h' tk' F' N' ⟨?_, hP.2⟩
    simp only [MD.cut, hc]
    exact hP.1
  | some be =>
    obtain ⟨b, e⟩ := be
    obtain ⟨a, tb, te, rfl, ha⟩ := hG
    have hmem : some (b, e) ∈ M.gs := List.mem_of_getElem? hc
    obtain ⟨hb, hbe, he⟩ := ok.gok b e hmem
    intro dp un gd cn cs a' ccd cl outer A₀ base h₀ L m s mean mg mb Q E B F X N T hk hd hu hret
    refine (group_text_some h1 hg (by rw [hgl]; exact ok.glen) h0 (by rw [hgl]; exact hi) hv ha hb hbe he ok.tlen).use B F X N T hk hd hu fun r news' h' tk' F' N' hP => hret r news' h' tk' F' N' ⟨?_, hP.2⟩
    simp only [MD.cut, hc]
    exact hP.1
theorem rs_lastp : True := by
  w_top off
  trivial
set_option maxRecDepth 100000 in
set_option maxHeartbeats 8000000 in
theorem last_pattern_spec {w : World} {rn rnd pd : Addr} {es : List DictEntry} {n pn : Nat} {pv : Value} {news : Led}
    (h1 : (rn, instObj 623 rnd) ∈ news) (h2 : (rnd, dictOf es n) ∈ news) (h3 : getL (Str.ofString "patterns") es = some (some (.ref pd))) (lo : (pd == sysModules) = false) (h4 : (pd, patO w pv pn) ∈ news) :
    Spec w 220 [.ref rn] news 4 (fun r news' => r = pv ∧ news' = news) := by
  intro dp un gd cn cs a ccd cl outer A₀ base h₀ L m s mean mg mb Q E B F X N T hk hd hu hret
  refine wpAny_call ?_
  k_dflt (refine' code_def (binds := [(Str.ofString "run", .ref rn)]) ?k1 ?k2 ?k3 ?k4 ?k5 ?kA ?kF ?kK ?k6 ?k7 ?k8 ?k9 ?kB ?_ ?c2 ?c3 ?c4 ?c5; k_extra "m def")
  repeat' (first | (k_unfold; (try dsimp only)) | k_extra "r macros_3" | k_extra "r macros_2" | (k_end; kc_close) | walk1 | (dsimp only; walk1) | (leave1; walk_say "STEP leave1"; (try dsimp only)))
  all_goals exact hret _ _ _ _ (by with_reducible assumption) (by with_reducible assumption) ⟨rfl, rfl⟩
theorem rs_named : True := by
  w_top off
  trivial
set_option maxRecDepth 100000 in
set_option maxHeartbeats 8000000 in
theorem named_texts_none {w : World} {rn : Addr} {news : Led} (hC : CurRep w news rn none) :
    Spec w 377 [.ref rn] news 12 (fun r news' => ∃ fd od kvs, r = .ref fd ∧ news' = (fd, od) :: news ∧ (fd == sysModules) = false ∧ od.IsDictOf (PySem.strKind PG w) kvs ∧ PairsAre kvs [] ∧ ∀ p ∈ news, p.1 < fd) := by
  obtain ⟨rnd, es, n, pd, pn, mv, pv, h1, h2, h3, h4, lo, h5, hv, rfl, rfl⟩ := hC
  intro dp un gd cn cs a ccd cl outer A₀ base h₀ L m s mean mg mb Q E B F X N T hk hd hu hret
  refine wpAny_call ?_
  refine' code_defC ?k1 ?k2 ?k3 ?k4 ?k5 ?kA ?kF ?kK ?k6 ?k7 ?k8 ?k9 ?kB ?kD ?_ ?c2 ?c3 ?c4
  case kA => exact rfl
  case kF => exact rfl
  case kK => assumption
  case k1 => k_asm
  case k2 => k_asm
  case k3 => k_asm
  case k4 => k_asm
  case k5 => k_asm
  case k6 => k_is
  case k7 => k_is
  case k8 => ktr_room
  case k9 => exact BindsTo.of_eq rfl
  case kB => exact rfl
  case kD => decide +kernel
  case c2 => exact rfl
  case c3 => exact rfl
  case c4 => exact rfl
  intro g' L' h' tk' cells' FG' F' N' Y' B' X' T' l1
  k_lt l1
  k_cells Y'
  simp only [List.cons_append, List.nil_append] at N'
  try dsimp only
  try k_lift B'
  try k_fold
  k_extra "fA"
  repeat' (first | (k_unfold; (try dsimp only)) | k_extra "r lastp_1" | (k_end; kc_close) | walk1 | (dsimp only; walk1) | (leave1; walk_say "STEP leave1"; (try dsimp only)))
  refine hret _ _ _ _ (by k_asm) (News.sub1 (by k_asm) ?_) (exI3 ⟨rfl, rfl, by assumption, by assumption, .nil, allLt_mem (by assumption)⟩)
  intro p hp
  rcases List.mem_cons.mp hp with h | h
  · exact h ▸ .head _
  · exact .tail _ (.tail _ h)
set_option maxRecDepth 100000 in
set_option maxHeartbeats 8000000 in
theorem named_texts_some {w : World} {rn : Addr} {news : Led} {M : MD} (hC : CurRep w news rn (some M)) :
    Spec w 377 [.ref rn] news 12 (fun r news' => ∃ fd od kvs, r = .ref fd ∧ news' = (fd, od) :: news ∧ (fd == sysModules) = false ∧ od.IsDictOf (PySem.strKind PG w) kvs ∧ PairsAre kvs M.found ∧ ∀ p ∈ news, p.1 < fd) := by
  obtain ⟨rnd, es, n, pd, pn, mv, pv, h1, h2, h3, h4, lo, h5, hv, ok, tm, ga, nd, tt, pg, pgd, es', n', rfl, g1, g2, rfl, g3, g4, g5, od, kvs, g6, g7, g8, g9, g10⟩ := hC
  intro dp un gd cn cs a ccd cl outer A₀ base h₀ L m s mean mg mb Q E B F X N T hk hd hu hret
  refine wpAny_call ?_
  refine' code_defC ?k1 ?k2 ?k3 ?k4 ?k5 ?kA ?kF ?kK ?k6 ?k7 ?k8 ?k9 ?kB ?kD ?_ ?c2 ?c3 ?c4
  case kA => exact rfl
  case kF => exact rfl
  case kK => assumption
  case k1 => k_asm
  case k2 => k_asm
  case k3 => k_asm
  case k4 => k_asm
  case k5 => k_asm
  case k6 => k_is
  case k7 => k_is
  case k8 => ktr_room
  case k9 => exact BindsTo.of_eq rfl
  case kB => exact rfl
  case kD => decide +kernel
  case c2 => exact rfl
  case c3 => exact rfl
  case c4 => exact rfl
  intro g' L' h' tk' cells' FG' F' N' Y' B' X' T' l1
  k_lt l1
  k_cells Y'
  simp only [List.cons_append, List.nil_append] at N'
  try dsimp only
  try k_lift B'
  try k_fold
  k_extra "fA"
  repeat' (first | (k_unfold; (try dsimp only)) | k_extra "r lastp_1" | (k_end; kc_close) | walk1 | (dsimp only; walk1) | (leave1; walk_say "STEP leave1"; (try dsimp only)))
  have ztk9 := trivial; have zh9 := trivial
  rename_i oc d1 fd h1' od0 lo1 hs1 fs1 hi1 fi1 hl9 l11 h2' h3' tk9' h4' lF N1
  clear ztk9 zh9
  with_unfolding_all refine iter_dictS (kvs := kvs) (od := od) [Str.ofString "held"] (fun i nx => ∃ od' kvs', nx = (fd, od') :: (L' + 1, oc) :: news ∧ od'.IsDictOf (PySem.strKind PG w) kvs' ∧ PairsAre kvs' ((M.nms.take i).filterMap fun p => (M.texts p.2).head?.map fun t => (p.1, t))) (by rfl) g7 (by k_mem) g8 lF N1 ?_ ?_ ?_ ?_
  · rintro i nx ⟨od', kvs', rfl, _, _⟩
    k_mem
  · exact ⟨od0, [], rfl, hs1, by simpa using PairsAre.nil⟩
  · intro i k v t u nx h tk I oI hk hJ ho F2 N2
    obtain ⟨od', kvs', rfl, hd', hp'⟩ := hJ
    have hval := valueAt_of_get g8 hk
    have hil : i < M.nms.length := by
      have := (List.getElem?_eq_some_iff.mp hk).1
      omega
    obtain ⟨nm, is, hnm⟩ : ∃ nm is, M.nms[i]? = some (nm, is) := ⟨M.nms[i].1, M.nms[i].2, List.getElem?_eq_getElem hil⟩
    obtain ⟨l, vs, ln, q1, q2, q3⟩ := g10 i nm is hnm
    rw [hk] at q1
    simp only [Option.some.injEq, Prod.mk.injEq] at q1
    obtain ⟨rfl, rfl⟩ := q1
    replace F2 : Fr g' L' h _ := F2
    replace N2 : News g' L' h _ := N2
    have hix := ok.idx _ (List.mem_of_getElem? hnm)
    have hfI : @Ne Nat fd I := ho _ (.head _)
    have hkl : kvs'.length ≤ 3 := by
      rw [hp'.len]
      exact Nat.le_trans (List.length_filterMap_le _ _) (Nat.le_trans (by rw [List.length_take]; exact Nat.min_le_right _ _) ok.nlen)
    k_unmd
    k_fold
    repeat' (first | (k_unfold; (try dsimp only)) | k_extra "r comps_2" | k_extra "r macros_4" | (k_end; kc_close) | walk1 | (dsimp only; walk1) | (leave1; walk_say "STEP leave1"; (try dsimp only)))
    refine CompSrcJ.list (its := vs) (k := ln) (fun j ys nx => nx = (I, oI) :: (fd, od') :: (L' + 1, oc) :: news ∧ OptsAre ys ((is.take j).map M.cut)) rfl rfl (by k_asm) (by k_asm) ?_ ?_ ?_ ?_ ?_ ?_
    · rintro j ys nx ⟨rfl, _⟩
      k_mem
    · rw [q3.length, sizeLine_eq]
      exact Nat.le_trans hix.1 (by decide)
    · rintro j ys nx ⟨_, hy⟩
      rw [hy.length, List.length_map, List.length_take]
      exact Nat.min_le_left _ _
    · exact ⟨rfl, by simpa using OptsAre.nil⟩
    · rintro g9 j v2 ys nx2 I2 oI2 C oC D m2 h2 tk2 E2 hj hv2 ⟨rfl, hy⟩ hC hm2 F3 N3 off3 ne3
      refine wpAny_tests_nil ?_
      rw [if_pos rfl]
      have hjl : j < is.length := by rw [← q3.length]; exact hj
      obtain ⟨t2, ht2⟩ := q3.get j is[j] (List.getElem?_eq_getElem hjl)
      obtain rfl : v2 = .int is[j] t2 := by rw [ht2] at hv2; exact (Option.some.inj hv2).symm
      obtain ⟨hj0, hj1⟩ := hix.2 is[j] (List.getElem_mem _)
      k_unmd
      k_fold
      repeat' (first | (k_unfold; (try dsimp only)) | k_extra "r gtext_1" | k_extra "r comps_1" | (k_end; kc_close) | walk1 | (dsimp only; walk1) | (leave1; walk_say "STEP leave1"; (try dsimp only)))
      refine exI3 ⟨rfl, by k_asm, by k_asm, off3, rfl, ?_⟩
      rw [List.take_add_one, List.getElem?_eq_getElem hjl]
      simp only [Option.toList_some, List.map_append, List.map_cons, List.map_nil]
      exact hy.snoc (by assumption)
    · rintro g9 ys nx2 ⟨rfl, hy⟩
      rw [q3.length, List.take_length] at hy
      intro D h3 tk3 F3 N3 o1
      simp only [LCg.Off1] at o1
      k_unmd
      repeat' (first | (k_unfold; (try dsimp only)) | k_extra "r comps_2" | (k_end; kc_close) | walk1 | (dsimp only; walk1) | (leave1; walk_say "STEP leave1"; (try dsimp only)))
      have hyl : ys.length = is.length := by rw [hy.length, List.length_map]
      refine CompSrcJ.list (its := ys) (k := ys.length) (fun j zs nx => nx = (D, LCg.lst ys) :: (I, oI) :: (fd, od') :: (L' + 1, oc) :: news ∧ StrsAre zs ((is.take j).filterMap M.cut)) rfl rfl (by k_asm) (by k_asm) ?_ ?_ ?_ ?_ ?_ ?_
      · rintro j zs nx ⟨rfl, _⟩
        exact List.Mem.head _
      · rw [hyl, sizeLine_eq]
        exact Nat.le_trans hix.1 (by decide)
      · rintro j zs nx ⟨_, hz⟩
        rw [strs_len hz]
        exact len_filterMap_take _ _ _
      · exact ⟨rfl, by simpa using StrsAre.nil⟩
      · rintro g9 j v2 zs nx2 I2 oI2 C oC D2 m2 h2 tk2 E2 hj hv2 ⟨rfl, hz⟩ hC hm2 F4 N4 off3 ne3
        refine wpAny_tests_one ?_
        have hjl : j < is.length := by rw [← hyl]; exact hj
        obtain ⟨o2, ho2, hs2⟩ := hy.get hv2
        rw [List.getElem?_map, List.getElem?_eq_getElem hjl] at ho2
        simp only [Option.map_some, Option.some.injEq] at ho2
        cases o2 with
        | none =>
          obtain rfl : v2 = .none := hs2
          k_unmd
          k_fold
          k_steps
          refine exI3 ⟨rfl, by k_asm, by k_asm, off3, rfl, ?_⟩
          rw [filterMap_take_succ _ _ _ hjl, ho2]
          simpa using hz
        | some x2 =>
          obtain ⟨t2, rfl⟩ := hs2
          k_unmd
          k_fold
          k_steps
          refine exI3 ⟨rfl, by k_asm, by k_asm, off3, rfl, ?_⟩
          rw [filterMap_take_succ _ _ _ hjl, ho2]
          exact strs_push hz
      · rintro g9 zs nx2 ⟨rfl, hz⟩
        rw [hyl, List.take_length] at hz
        intro D2 h4 tk4 F4 N4 o2
        simp only [LCg.Off1] at o2
        have hok : AllOk (is.filterMap M.cut) := MD.texts_ok ok is
        generalize hxs : is.filterMap M.cut = xs at hz hok
        cases hz with
        | nil =>
          k_unmd
          repeat' (first | (k_unfold; (try dsimp only)) | k_extra "r macros_6" | (k_end; kc_close) | walk1 | (dsimp only; walk1) | (leave1; walk_say "STEP leave1"; (try dsimp only)))
          refine exI4 ⟨rfl, by k_asm, News.sub1 (by k_asm) ?_, ho, ⟨od', kvs', rfl, hd', ?_⟩, ?_⟩
          · k_extra "m sub"
          · rw [filterMap_take_succ _ _ _ hil]
            have e1 : M.nms[i] = (k, is) := by rw [List.getElem?_eq_getElem hil] at hnm; exact Option.some.inj hnm
            have e2 : M.texts is = [] := hxs
            simpa [e1, e2] using hp'
          · intro z h1 h2
            first | rfl | (simp [h1]; done) | (simp_all; done)
        | cons x2 t2 hz2 =>
          rename_i vs3 ys3
          have hok2 : OptsOk (some x2 :: ys3.map some) := optsOk_map hok
          k_unmd
          repeat' (first | (k_unfold; (try dsimp only)) | k_extra "r macros_6" | k_extra "r macros_5" | k_extra "r macros_1" | (k_end; kc_close) | walk1 | (dsimp only; walk1) | (leave1; walk_say "STEP leave1"; (try dsimp only)))
          have zhd' := trivial; have zN' := trivial; have zF' := trivial; have zo' := trivial; have zh' := trivial
          rename_i h9' o9 F9' N9' hd9
          clear zhd' zN' zF' zo' zh'
          have ho' : ∀ p ∈ (fd, o9) :: (L' + 1, oc) :: news, p.1 ≠ I := by
            intro p hp
            rcases List.mem_cons.mp hp with rfl | hp
            · exact hfI
            · exact ho p (.tail _ hp)
          have e1 : M.nms[i] = (k, is) := by rw [List.getElem?_eq_getElem hil] at hnm; exact Option.some.inj hnm
          have e2 : M.texts is = x2 :: ys3 := hxs
          rw [stored_new (by rw [hp'.keys]; exact found_fresh ok hnm)] at hd9
          refine exI4 ⟨rfl, F9', News.sub1 N9' ?_, ho', ⟨_, _, rfl, hd9, ?_⟩, ?_⟩
          · k_extra "m sub"
          · rw [filterMap_take_succ _ _ _ hil, e1]
            simp only [e2, List.head?_cons, Option.map_some, Option.toList_some]
            exact hp'.snoc
          · intro z h1 h2
            first | rfl | (simp [h1]; done) | (simp_all; done)
  · rintro u nx h tk ⟨od', kvs', rfl, hd', hp'⟩ F2 N2
    replace F2 : Fr g' L' h _ := F2
    replace N2 : News g' L' h _ := N2
    rw [g9, List.take_length] at hp'
    k_unmd
    k_steps
    refine hret _ _ _ _ (by k_asm) (News.sub1 (by k_asm) ?_) (exI3 ⟨rfl, rfl, lo1, hd', hp', allLt_mem l11⟩)
    intro p hp
    rcases List.mem_cons.mp hp with h | h
    · exact h ▸ .head _
    · exact .tail _ (.tail _ h)
theorem named_texts_spec {w : World} {rn : Addr} {news : Led} {cur : Option MD} (hC : CurRep w news rn cur) :
    Spec w 377 [.ref rn] news 12 (fun r news' => ∃ fd od kvs, r = .ref fd ∧ news' = (fd, od) :: news ∧ (fd == sysModules) = false ∧ od.IsDictOf (PySem.strKind PG w) kvs ∧ PairsAre kvs (foundC cur) ∧ ∀ p ∈ news, p.1 < fd) := by
  cases cur with
  | none => exact named_texts_none hC
  | some M => exact named_texts_some hC
theorem rs_rules : True := by
  w_top off
  trivial
/-- a NamedGroups' own dict -/
noncomputable abbrev sgO (h1 h2 h3 : Int) (t1 t2 t3 : Tok) (rn : Addr) (lv : Value) : Obj := dictOf [⟨h1, .str (Str.ofString "run") t1, .ref rn⟩, ⟨h2, .str (Str.ofString "last") t2, lv⟩, ⟨h3, .str (Str.ofString "line") t3, .none⟩] 3
theorem keysS_all : ∀ {kvs : List (Str × Value)} {C : List Value → Prop}, (∀ vs, StrsAre vs (kvs.map (·.1)) → C vs) → KdlKeysS kvs C
  | [], _, h => h [] .nil
  | q :: _, _, h => fun t => keysS_all fun vs hv => h _ (.cons q.1 t hv)
theorem keysS_strs : ∀ {kvs : List (Str × Value)} {vs : List Value}, vs.length = kvs.length → (∀ (j : Nat) (u : Value), vs[j]? = some u → ∃ k x, kvs[j]? = some (k, x) ∧ ∃ t : Tok, u = .str k t) → StrsAre vs (kvs.map (·.1))
  | [], [], _, _ => .nil
  | [], _ :: _, h, _ => by simp at h
  | _ :: _, [], h, _ => by simp at h
  | (k, x) :: r, u :: vs, h, g => by
    obtain ⟨k', x', e, t, rfl⟩ := g 0 u rfl
    simp only [List.getElem?_cons_zero, Option.some.injEq, Prod.mk.injEq] at e
    obtain ⟨rfl, rfl⟩ := e
    exact .cons _ _ (keysS_strs (by simpa using h) fun j v hv => g (j + 1) v (by simpa using hv))
section
variable {prog : Program} {w : World} {A : Around} {E : Value → Shared → Prop} {s : Shared} {h₀ : Heap} {L : Addr} {m : Str → Option Value} {news : Led}
theorem list_keys_led {d : Addr} {o : Obj} {kvs : List (Str × Value)} {Q : Value → Shared → Prop} (hh : A.handled = none) (F : Fr h₀ L s.heap m) (N : News h₀ L s.heap news) (hp : (d, o) ∈ news) (hd : o.IsDictOf (PySem.strKind prog w) kvs) (lo : (d == sysModules) = false) (hn : kvs.length ≤ 1000)
    (h : ∀ (B : Addr) c h' tk vs, StrsAre vs (kvs.map (·.1)) → Fr h₀ L h' m → News h₀ L h' ((B, listOf vs.toArray c) :: news) → (∀ q ∈ news, q.1 < B) → Q (.ref B) { s with heap := h', toks := tk }) :
    wpAny (model prog w) A (call (.type "list") [.ref d]) Q E s :=
  kdl_list_keysS hh F N hp hd lo (by omega) fun B c h' tk => keysS_all fun vs hv F' N' l1 => h B c h' tk vs hv F' N' l1
theorem in_strs_led {l : Addr} {vs : List Value} {n : Nat} {ys : List Str} {k : Str} {t : Tok} {Q : Value → Shared → Prop} (N : News h₀ L s.heap news) (hm : (l, listOf vs.toArray n) ∈ news) (hi : StrsAre vs ys)
    (h : Q (.bool (ys.any (· == k))) s) : wpAny (model prog w) A (compareOp .In (.str k t) (.ref l)) Q E s := in_list_strs (mem_list N hm) hi h
theorem index_strs_led {l : Addr} {vs : List Value} {n : Nat} {ys : List Str} {k : Str} {t : Tok} {j : Nat} {Q : Value → Shared → Prop} (N : News h₀ L s.heap news) (hm : (l, listOf vs.toArray n) ∈ news) (hi : StrsAre vs ys) (hl : ys.length ≤ 1000)
    (hj : ys[j]? = some k) (hlt : ∀ i y, i < j → ys[i]? = some y → y ≠ k) (h : Q (.int j s.toks) { s with toks := s.toks + 1 }) : wpAny (model prog w) A (call (.builtin "list.index") [.ref l, .str k t]) Q E s := by
  have hvl := strs_len hi
  have hjl : j < ys.length := (List.getElem?_eq_some_iff.mp hj).1
  have at_ : ∀ (i : Nat) (hi' : i < vs.toArray.size), isStrOf k vs.toArray[i] = decide (ys[i]? = some k) := by
    intro i hi'
    have hi2 : i < vs.length := by simpa using hi'
    have key : ∀ {vs : List Value} {ys : List Str}, StrsAre vs ys → ∀ (i : Nat) (h : i < vs.length), isStrOf k vs[i] = decide (ys[i]? = some k) := by
      intro vs ys hi
      induction hi with
      | nil => intro i h; simp at h
      | cons y t _ ih =>
        intro i h
        cases i with
        | zero =>
          simp only [List.getElem_cons_zero, isStrOf, List.getElem?_cons_zero, Option.some.injEq]
          exact Bool.eq_iff_iff.mpr (by simp)
        | succ i => simpa using ih i (by simpa using h)
    simpa using key hi i hi2
  refine call_meets PySem.F.slot_list_index ⟨_, (N _ hm).1, rfl⟩ PySem.F.entry_list_index (PySem.F.args_list_index_2 _ _)
    (MeetsSeq.list_index l vs.toArray n (.str k t) (isStrOf k) (fun y hy => eq_isStrOf k t hi y (by simpa using hy)) j (by simpa [hvl] using hjl) (by omega) (by rw [at_]; simpa using hj) (fun i hi' hlt' => ?_)) ⟨(N _ hm).1, h⟩
  rw [at_]
  simp only [decide_eq_false_iff_not]
  intro e
  exact hlt i k hlt' e rfl
end

theorem News.d2 {h₀ h : Heap} {L : Addr} {a b : Addr × Obj} {l : Led} (N : News h₀ L h (a :: b :: l)) : News h₀ L h (a :: l) := News.sub1 N fun p hp => by
  rcases List.mem_cons.mp hp with h | h
  · exact h ▸ .head _
  · exact .tail _ (.tail _ h)
theorem News.d3 {h₀ h : Heap} {L : Addr} {a b c : Addr × Obj} {l : Led} (N : News h₀ L h (a :: b :: c :: l)) : News h₀ L h (a :: l) := News.sub1 N fun p hp => by
  rcases List.mem_cons.mp hp with h | h
  · exact h ▸ .head _
  · exact .tail _ (.tail _ (.tail _ h))
theorem News.t1 {h₀ h : Heap} {L : Addr} {a : Addr × Obj} {l : Led} (N : News h₀ L h (a :: l)) : News h₀ L h l := News.sub1 N fun p hp => .tail _ hp
/-- the text behind a name -/
noncomputable def look (ps : List (Str × Str)) (k : Str) : Option Str := (ps.find? fun p => decide (p.1 = k)).map (·.2)
theorem look_pairs : ∀ {kvs : List (Str × Value)} {ps : List (Str × Str)}, PairsAre kvs ps → ∀ k, OptStr ((valueAt kvs k).getD .none) (look ps k) ∧ (valueAt kvs k).isSome = (look ps k).isSome
  | _, _, .nil, k => ⟨rfl, rfl⟩
  | _, _, .cons n x t h, k => by
    have ih := look_pairs h k
    by_cases e : n = k
    · simp only [valueAt, look, List.find?_cons, e, decide_true, Option.map_some, Option.getD_some]
      exact ⟨⟨t, rfl⟩, rfl⟩
    · simpa only [valueAt, look, List.find?_cons, e, decide_false] using ih
/-- a scalar that reads the name's text -/
inductive ScalarRep (news : Led) (rn : Addr) (name : Str) (sc : Addr) : Prop
  | mk (scd : Addr) (es : List DictEntry) (n : Nat) (num : Int) (nt : Tok) (ng ngd : Addr) (h1 h2 : Int) (t1 t2 t3 : Tok) (n' : Nat) (f0 : (sc, instObj 59 scd) ∈ news) (f1 : (scd, dictOf es n) ∈ news) (f2 : getL (Str.ofString "number") es = some (some (.int num nt))) (f3 : getL (Str.ofString "magic") es = some (some (.ref ng))) (f4 : (ng, instObj 408 ngd) ∈ news) (f5 : (ngd, dictOf [⟨h1, .str (Str.ofString "run") t1, .ref rn⟩, ⟨h2, .str (Str.ofString "name") t2, .str name t3⟩] n') ∈ news) : ScalarRep news rn name sc
theorem ScalarRep.mono {news news' : Led} {rn : Addr} {name : Str} {sc : Addr} (h : ScalarRep news rn name sc) (hs : ∀ p ∈ news, p ∈ news') : ScalarRep news' rn name sc := by
  obtain ⟨scd, es, n, num, nt, ng, ngd, h1, h2, t1, t2, t3, n', a, b, c, d, e, f⟩ := h
  exact ⟨scd, es, n, num, nt, ng, ngd, h1, h2, t1, t2, t3, n', hs _ a, hs _ b, c, d, hs _ e, hs _ f⟩
/-- the heap's own dict -/
noncomputable abbrev hpO (h1 h2 h3 : Int) (t1 t2 t3 : Tok) (lim zl : Value) (k : Int) (tk : Tok) : Obj := dictOf [⟨h1, .str (Str.ofString "limits") t1, lim⟩, ⟨h2, .str (Str.ofString "last") t2, .int k tk⟩, ⟨h3, .str (Str.ofString "zero") t3, zl⟩] 3
theorem allLt_up {d e : Addr} {l : Led} (x : AllLt d l) (h : @LT.lt Nat _ d e) : ∀ p ∈ l, p.1 < e := fun p hp => Nat.lt_trans (allLt_mem x p hp) h
theorem News.elem5 {h₀ h : Heap} {L : Addr} {a b c d e f : Addr × Obj} {l : Led} (N : News h₀ L h (a :: b :: c :: d :: e :: f :: l)) : News h₀ L h (f :: ([a, b, c, d, e] ++ l)) := News.sub1 N (by k_extra "m sub")
/-! Ledgers apart: what is new lies above b, what was there below -/
def Above (b : Addr) (l : Led) : Prop := ∀ q ∈ l, @LE.le Nat _ b q.1
theorem above_ne {b d : Addr} {l : Led} (h : Above b l) (hd : @LT.lt Nat _ d b) : ∀ p ∈ l, p.1 ≠ d := fun p hp e => by
  have h1 := h p hp
  rw [e] at h1
  exact Nat.lt_irrefl _ (Nat.lt_of_lt_of_le hd h1)
theorem allLt_iff {d : Addr} {l : Led} : AllLt d l ↔ ∀ p ∈ l, p.1 < d := ⟨allLt_mem, allLt_of⟩
theorem allLt_app {d : Addr} {a b : Led} : AllLt d (a ++ b) ↔ AllLt d a ∧ AllLt d b := by
  rw [allLt_iff, allLt_iff, allLt_iff]
  exact ⟨fun h => ⟨fun p hp => h p (List.mem_append.mpr (.inl hp)), fun p hp => h p (List.mem_append.mpr (.inr hp))⟩, fun h => forall_app h.1 h.2⟩
theorem upper : ∀ l : Led, ∃ b : Addr, ∀ p ∈ l, p.1 < b
  | [] => ⟨0, fun _ h => nomatch h⟩
  | p :: r => by
    obtain ⟨b, hb⟩ := upper r
    refine ⟨Nat.max b (p.1 + 1), fun q hq => ?_⟩
    rcases List.mem_cons.mp hq with rfl | hq
    · exact Nat.lt_of_lt_of_le (Nat.lt_succ_self _) (Nat.le_max_right _ _)
    · exact Nat.lt_of_lt_of_le (hb q hq) (Nat.le_max_left _ _)
theorem between (l : Led) : ∀ new : Led, (∀ q ∈ new, ∀ p ∈ l, p.1 < q.1) → ∃ b : Addr, (∀ p ∈ l, p.1 < b) ∧ Above b new
  | [], _ => by
    obtain ⟨b, hb⟩ := upper l
    exact ⟨b, hb, fun _ h => nomatch h⟩
  | q :: r, h => by
    obtain ⟨b, hb, ha⟩ := between l r fun x hx => h x (.tail _ hx)
    by_cases e : @LE.le Nat _ b q.1
    · refine ⟨b, hb, fun x hx => ?_⟩
      rcases List.mem_cons.mp hx with rfl | hx
      · exact e
      · exact ha x hx
    · refine ⟨q.1, fun p hp => h q (.head _) p hp, fun x hx => ?_⟩
      rcases List.mem_cons.mp hx with rfl | hx
      · exact Nat.le_refl _
      · exact Nat.le_trans (Nat.le_of_lt (Nat.lt_of_not_le e)) (ha x hx)
/-- what is new is laid behind the written entries -/
inductive Sink (new : Led) : Led → Led → Prop
  | base {r : Led} : Sink new r (new ++ r)
  | cons {p : Addr × Obj} {l l' : Led} : Sink new l l' → Sink new (p :: l) (p :: l')
theorem News.sink {h₀ h : Heap} {L : Addr} {new : Led} : ∀ {l l' : Led}, Sink new l l' → News h₀ L h (new ++ l) → News h₀ L h l'
  | _, _, .base, N => N
  | _, _, .cons (p := p) S, N => fun q hq => by
    rcases List.mem_cons.mp hq with rfl | hq
    · exact N _ (List.mem_append.mpr (.inr (.head _)))
    · exact News.sink S (fun x hx => N x ((List.mem_append.mp hx).elim (fun h => List.mem_append.mpr (.inl h)) fun h => List.mem_append.mpr (.inr (.tail _ h)))) q hq
theorem News.sink1 {h₀ h : Heap} {L : Addr} {new : Led} {a : Addr × Obj} {l l' : Led} (N : News h₀ L h (a :: (new ++ l))) (S : Sink new l l') : News h₀ L h (a :: l') := fun q hq => by
  rcases List.mem_cons.mp hq with rfl | hq
  · exact N _ (.head _)
  · exact News.sink S (fun x hx => N x (.tail _ hx)) q hq
section
variable {prog : Program} {w : World} {A : Around} {E : Value → Shared → Prop} {s : Shared} {h₀ : Heap} {L : Addr} {m : Str → Option Value} {news : Led}
theorem in_strs_yes {l : Addr} {vs : List Value} {n j : Nat} {ys : List Str} {k : Str} {t : Tok} {Q : Value → Shared → Prop} (N : News h₀ L s.heap news) (hm : (l, listOf vs.toArray n) ∈ news) (hi : StrsAre vs ys) (hj : ys[j]? = some k)
    (h : Q (.bool true) s) : wpAny (model prog w) A (compareOp .In (.str k t) (.ref l)) Q E s :=
  in_strs_led N hm hi (by rw [show ys.any (· == k) = true from List.any_eq_true.mpr ⟨k, List.mem_of_getElem? hj, by simp⟩]; exact h)
theorem item_strs_led {value slice : PySem.Expr} {l : Addr} {vs : List Value} {n : Nat} {ys : List Str} {k : Int} {u : Tok} {Q : Value → Shared → Prop} (N : News h₀ L s.heap news) (hm : (l, listOf vs.toArray n) ∈ news) (hi : StrsAre vs ys) (h0 : 0 ≤ k) (h1 : k < ys.length ∧ ys.length ≤ 1000)
    (h : ∀ t, Q (.str (ys.getD k.toNat Str.empty) t) s) (hs : subscripted slice false (.ref l) (.int k u) = operate [.ref l, .int k u] (getItem (.ref l) (.int k u))) :
    wpAny (model prog w) A (subscriptTail value slice (.ref l) (.int k u)) Q E s := by
  have hlt : k.toNat < ys.length := by omega
  obtain ⟨t, ht⟩ := hi.at (List.getElem?_eq_getElem hlt)
  have e : ys.getD k.toNat Str.empty = ys[k.toNat] := by simp [List.getD, hlt]
  have hvl := strs_len hi
  exact item_led N hm ht h0 (by omega) (e ▸ h t) hs
end
/-- the run's heap -/
inductive HeapRep (news : Led) (rn hp hpd : Addr) : Prop
  | mk (rnd : Addr) (es : List DictEntry) (n : Nat) (f0 : (rn, instObj 623 rnd) ∈ news) (f1 : (rnd, dictOf es n) ∈ news) (f2 : getL (Str.ofString "heap") es = some (some (.ref hp))) (f3 : (hp, instObj 180 hpd) ∈ news) : HeapRep news rn hp hpd
theorem HeapRep.mono {news news' : Led} {rn hp hpd : Addr} (h : HeapRep news rn hp hpd) (hs : ∀ p ∈ news, p ∈ news') : HeapRep news' rn hp hpd := by
  obtain ⟨rnd, es, n, a, b, c, d⟩ := h
  exact ⟨rnd, es, n, hs _ a, hs _ b, c, hs _ d⟩
theorem gt_ne {d : Addr} {l : Led} (h : ∀ q ∈ l, @LT.lt Nat _ d q.1) : ∀ p ∈ l, p.1 ≠ d := fun p hp e => by
  have := h p hp
  rw [e] at this
  exact Nat.lt_irrefl _ this
theorem above_gt {b d : Addr} {l : Led} (h : Above b l) (hd : @LT.lt Nat _ d b) : ∀ q ∈ l, @LT.lt Nat _ d q.1 := fun q hq => Nat.lt_of_lt_of_le hd (h q hq)
/-- a list of names and scalars, one behind the other -/
inductive RowsAre (news : Led) (rn : Addr) : List Value → List Str → Prop
  | nil : RowsAre news rn [] []
  | cons {vs : List Value} {xs : List Str} (x : Str) (t : Tok) (sc : Addr) : ScalarRep news rn x sc → RowsAre news rn vs xs → RowsAre news rn (.str x t :: .ref sc :: vs) (x :: xs)
theorem RowsAre.mono {news news' : Led} {rn : Addr} (hs : ∀ p ∈ news, p ∈ news') : ∀ {vs : List Value} {xs : List Str}, RowsAre news rn vs xs → RowsAre news' rn vs xs
  | _, _, .nil => .nil
  | _, _, .cons x t sc h r => .cons x t sc (h.mono hs) (RowsAre.mono hs r)
theorem RowsAre.snoc {news : Led} {rn : Addr} {x : Str} {t : Tok} {sc : Addr} (h : ScalarRep news rn x sc) : ∀ {vs : List Value} {xs : List Str}, RowsAre news rn vs xs → RowsAre news rn (vs ++ [.str x t, .ref sc]) (xs ++ [x])
  | _, _, .nil => .cons x t sc h .nil
  | _, _, .cons y u sd g r => .cons y u sd g (RowsAre.snoc h r)
theorem RowsAre.len {news : Led} {rn : Addr} : ∀ {vs : List Value} {xs : List Str}, RowsAre news rn vs xs → vs.length = 2 * xs.length
  | _, _, .nil => rfl
  | _, _, .cons _ _ _ _ r => by simp [RowsAre.len r]; omega
theorem mem_up {x : Addr × Obj} {l l' : Led} (h : x ∈ l) (hs : ∀ p ∈ l, p ∈ l') : x ∈ l' := hs _ h
theorem kw5_all : True := by
  k_with "all" => first | exact above_ne (by with_reducible assumption) (by with_reducible assumption) | (refine forall_app ?_ ?_ <;> k_all)
  k_with "all" => exact gt_ne (by with_reducible assumption)
  k_with "lt" => (intro hz9; (first | with_reducible (first | (refine' al16 hz9 ?_; clear hz9; intro _ _ _ _ _ _ _ _ _ _ _ _ _ _ _ _ hz9) | (refine' al12 hz9 ?_; clear hz9; intro _ _ _ _ _ _ _ _ _ _ _ _ hz9) | (refine' al10 hz9 ?_; clear hz9; intro _ _ _ _ _ _ _ _ _ _ hz9) | (refine' al8 hz9 ?_; clear hz9; intro _ _ _ _ _ _ _ _ hz9) | (refine' al6 hz9 ?_; clear hz9; intro _ _ _ _ _ _ hz9) | (refine' al5 hz9 ?_; clear hz9; intro _ _ _ _ _ hz9) | (refine' al4 hz9 ?_; clear hz9; intro _ _ _ _ hz9) | (refine' al3 hz9 ?_; clear hz9; intro _ _ _ hz9) | (refine' al2 hz9 ?_; clear hz9; intro _ _ hz9) | (refine' al1 hz9 ?_; clear hz9; intro _ hz9)) | replace hz9 := allLt_of hz9); (repeat (with_reducible (first | (refine' al16 (allLt_mem hz9) ?_; clear hz9; intro _ _ _ _ _ _ _ _ _ _ _ _ _ _ _ _ hz9) | (refine' al12 (allLt_mem hz9) ?_; clear hz9; intro _ _ _ _ _ _ _ _ _ _ _ _ hz9) | (refine' al10 (allLt_mem hz9) ?_; clear hz9; intro _ _ _ _ _ _ _ _ _ _ hz9) | (refine' al8 (allLt_mem hz9) ?_; clear hz9; intro _ _ _ _ _ _ _ _ hz9) | (refine' al6 (allLt_mem hz9) ?_; clear hz9; intro _ _ _ _ _ _ hz9) | (refine' al5 (allLt_mem hz9) ?_; clear hz9; intro _ _ _ _ _ hz9) | (refine' al4 (allLt_mem hz9) ?_; clear hz9; intro _ _ _ _ hz9) | (refine' al3 (allLt_mem hz9) ?_; clear hz9; intro _ _ _ hz9) | (refine' al2 (allLt_mem hz9) ?_; clear hz9; intro _ _ hz9) | (refine' al1 (allLt_mem hz9) ?_; clear hz9; intro _ hz9) | (refine' an2 (allLt_app.mp hz9) ?_; clear hz9; intro _ hz9)))); revert hz9)
  trivial
theorem rs_inits : True := by
  w_top off
  trivial
/-! __init__ bodies that only set fields of self, run at one stroke -/
inductive Src where
  | val (v : Value) | int (i : Int) | list | dict
def Src.Is (w : World) (new : Led) : Src → Value → Prop
  | .val x, v => v = x
  | .int i, v => ∃ t, v = .int i t
  | .list, v => ∃ l, v = .ref l ∧ (l, listOf ([] : List Value).toArray 0) ∈ new
  | .dict, v => ∃ l o, v = .ref l ∧ (l, o) ∈ new ∧ (l == sysModules) = false ∧ o.IsDictOf (PySem.strKind PG w) [] ∧ o.IsDictOf (PySem.intKind PG w) []
theorem Src.Is.mono {w : World} {new new' : Led} {f : Src} {v : Value} (h : f.Is w new v) (hs : ∀ p ∈ new, p ∈ new') : f.Is w new' v := by
  cases f with
  | val => exact h
  | int => exact h
  | list => obtain ⟨l, a, b⟩ := h; exact ⟨l, a, hs _ b⟩
  | dict => obtain ⟨l, o, a, b, c⟩ := h; exact ⟨l, o, a, hs _ b, c⟩
def NoRef (es : List DictEntry) : Prop := es.any (·.refKey) = false
theorem getL_some {k : Str} {es : List DictEntry} (h : NoRef es) : (getL k es).isSome = true := by
  unfold getL
  split
  · rfl
  · rw [show es.any (·.refKey) = false from h]; rfl
theorem NoRef.put {k : Str} {hs : Int} {t : Tok} {v : Value} : ∀ {es : List DictEntry}, NoRef es → NoRef (putL k hs (.str k t) v es)
  | [], _ => rfl
  | e :: r, h => by
    have h' : (e.refKey || r.any (·.refKey)) = false := h
    obtain ⟨h1, h2⟩ := Bool.or_eq_false_iff.mp h'
    unfold putL
    split
    · show ((e.key matches .ref _) || r.any (·.refKey)) = false
      exact h'
    · show (e.refKey || (putL k hs (.str k t) v r).any (·.refKey)) = false
      rw [h1, Bool.false_or]
      exact NoRef.put h2
theorem putL_le {k : Str} {hs : Int} {key v : Value} : ∀ {es : List DictEntry}, (putL k hs key v es).length ≤ es.length + 1
  | [] => Nat.le_refl _
  | e :: r => by
    unfold putL
    split
    · exact Nat.le_succ _
    · exact Nat.succ_le_succ putL_le
theorem find_putL_none {k k' : Str} {h : Int} {t : Tok} {v : Value} (hne : k ≠ k') : ∀ {es : List DictEntry}, es.find? (·.key.isStr k') = none → (putL k h (.str k t) v es).find? (·.key.isStr k') = none
  | [], _ => by
    have e : (Value.str k t).isStr k' = false := isStr_ne hne _ (by simp [Value.isStr])
    simp [putL, e]
  | a :: r, hg => by
    rw [List.find?_eq_none] at hg
    have h1 := hg a (.head _)
    have h2 : r.find? (·.key.isStr k') = none := List.find?_eq_none.mpr fun x hx => hg x (.tail _ hx)
    unfold putL
    split
    · rw [List.find?_cons_of_neg (by simpa using h1)]
      exact h2
    · rw [List.find?_cons_of_neg (by simpa using h1)]
      exact find_putL_none hne h2
theorem getL_putL_keep {k k' : Str} {h : Int} {t : Tok} {v : Value} {r : Option Value} {es : List DictEntry} (hr : NoRef es) (hne : k ≠ k') (hg : getL k' es = some r) : getL k' (putL k h (.str k t) v es) = some r := by
  cases r with
  | some w => exact getL_putL_other (isStr_ne hne) hg
  | none =>
    have hf : es.find? (·.key.isStr k') = none := by
      unfold getL at hg
      split at hg
      · cases hg
      · assumption
    unfold getL
    rw [find_putL_none hne hf, show (putL k h (.str k t) v es).any (·.refKey) = false from NoRef.put hr]
    rfl
theorem News.sw {h₀ h : Heap} {L : Addr} {a b : Addr × Obj} {l : Led} (N : News h₀ L h (a :: b :: l)) : News h₀ L h (b :: (a :: l)) := fun p hp => N p (by
  rcases List.mem_cons.mp hp with rfl | hp
  · exact .tail _ (.head _)
  · rcases List.mem_cons.mp hp with rfl | hp
    · exact .head _
    · exact .tail _ (.tail _ hp))
/-- a body that sets fields of self, one a statement -/
inductive Sets (env : Env) (m : Str → Option Value) (self : Str) : List Stmt → List (Str × Src) → Prop
  | nil : Sets env m self [] []
  | none {x : Str} {p1 p2 p3 p4 : Pos} {k : Nat} {b : List Stmt} {fs : List (Str × Src)} : Sets env m self b fs → Sets env m self (Stmt.Assign [.Attribute (.Name self p1) x p2] (.Constant .none k p3) p4 :: b) ((x, .val .none) :: fs)
  | bool {x : Str} {c : Bool} {p1 p2 p3 p4 : Pos} {k : Nat} {b : List Stmt} {fs : List (Str × Src)} : Sets env m self b fs → Sets env m self (Stmt.Assign [.Attribute (.Name self p1) x p2] (.Constant (.bool c) k p3) p4 :: b) ((x, .val (.bool c)) :: fs)
  | int {x : Str} {i : Int} {p1 p2 p3 p4 : Pos} {k : Nat} {b : List Stmt} {fs : List (Str × Src)} : Sets env m self b fs → Sets env m self (Stmt.Assign [.Attribute (.Name self p1) x p2] (.Constant (.int i) k p3) p4 :: b) ((x, .int i) :: fs)
  | var {x y : Str} {v : Value} {p1 p2 p3 p4 : Pos} {b : List Stmt} {fs : List (Str × Src)} (hv : m y = some v) (hk : env.kindOf y = some .local) (hd : (y == ("__debug__" : Str)) = false) : Sets env m self b fs → Sets env m self (Stmt.Assign [.Attribute (.Name self p1) x p2] (.Name y p3) p4 :: b) ((x, .val v) :: fs)
  | list {x : Str} {p1 p2 p3 p4 : Pos} {b : List Stmt} {fs : List (Str × Src)} : Sets env m self b fs → Sets env m self (Stmt.Assign [.Attribute (.Name self p1) x p2] (.List [] p3) p4 :: b) ((x, .list) :: fs)
  | dict {x : Str} {p1 p2 p3 p4 : Pos} {b : List Stmt} {fs : List (Str × Src)} : Sets env m self b fs → Sets env m self (Stmt.Assign [.Attribute (.Name self p1) x p2] (.Dict [] [] p3) p4 :: b) ((x, .dict) :: fs)
/-- what such a body leaves -/
structure Done (w : World) (d : Addr) (rest : Led) (fs : List (Str × Src)) (es es' : List DictEntry) (new new' : Led) : Prop where
  noref : NoRef es'
  len : es'.length ≤ es.length + fs.length
  sub : ∀ p ∈ new, p ∈ new'
  low : (∀ q ∈ new, d < q.1 ∧ ∀ p ∈ rest, p.1 < q.1) → ∀ q ∈ new', d < q.1 ∧ ∀ p ∈ rest, p.1 < q.1
  keep : ∀ k r, k ∉ fs.map (·.1) → getL k es = some r → getL k es' = some r
  has : (fs.map (·.1)).Nodup → ∀ f ∈ fs, ∃ v, getL f.1 es' = some (some v) ∧ f.2.Is w new' v
section
variable {w : World} {A : Around} {E : Value → Shared → Prop} {h₀ : Heap} {L a d C : Addr} {m : Str → Option Value} {cn self : Str} {cs : Scope} {aa : Addr} {ccd : Value} {cl : List (Str × Addr)} {rest : Led}
theorem Done.cons {x : Str} {src : Src} {v : Value} {hs : Int} {t : Tok} {fs : List (Str × Src)} {es es' : List DictEntry} {new new1 new' : Led} (hr : NoRef es) (hv : src.Is w new1 v) (hsub : ∀ p ∈ new, p ∈ new1) (hlow : ∀ q ∈ new1, q ∈ new ∨ (d < q.1 ∧ ∀ p ∈ rest, p.1 < q.1))
    (D : Done w d rest fs (putL x hs (.str x t) v es) es' new1 new') : Done w d rest ((x, src) :: fs) es es' new new' where
  noref := D.noref
  len := Nat.le_trans D.len (by have := putL_le (k := x) (hs := hs) (key := .str x t) (v := v) (es := es); simp only [List.length_cons]; omega)
  sub := fun p hp => D.sub p (hsub p hp)
  low := fun h => D.low fun q hq => (hlow q hq).elim (h q) id
  keep := fun k r hk hg => D.keep k r (fun h => hk (.tail _ h)) (getL_putL_keep hr (fun e => hk (e ▸ .head _)) hg)
  has := fun hn f hf => by
    rw [List.map_cons, List.nodup_cons] at hn
    rcases List.mem_cons.mp hf with rfl | hf
    · exact ⟨v, D.keep x _ hn.1 (getL_putL_same (by simp [Value.isStr])), hv.mono D.sub⟩
    · exact D.has hn.2 f hf
theorem set_field {x : Str} {v : Value} {p1 : Pos} {es : List DictEntry} {n : Nat} {news : Led} {s : Shared} {Q : Flow → Shared → Prop} (hself : m self = some (.ref a)) (hk : cs.kind = .function) (hx : (envX cn cs L aa ccd cl).kindOf self = some .local) (hd : (self == ("__debug__" : Str)) = false) (X₀ : (Mine.k.heap_1 w.params).In h₀)
    (c1 : findIn (Mine.k.heap_1 w.params) (.ref C) "__setattr__" = some (some (.builtin "object.__setattr__"))) (c2 : plainOver (Mine.k.heap_1 w.params) C = true) (c3 : hasDictIn (Mine.k.heap_1 w.params) C = true) (c4 : takerIn (Mine.k.heap_1 w.params) C x = some none)
    (F : Fr h₀ L s.heap m) (N : News h₀ L s.heap ((d, dictOf es n) :: news)) (ha : (a, instObj C d) ∈ news) (hoff : ∀ p ∈ news, p.1 ≠ d) (hr : NoRef es) (hl : es.length ≤ 900)
    (h : ∀ h' t n' tk, Fr h₀ L h' m → News h₀ L h' ((d, dictOf (putL x (PyData.keyHash w.params x) (.str x t) v es) n') :: news) → Q .next { s with heap := h', toks := tk }) :
    wpAny (model PG w) A (eval (.Name self p1) (envX cn cs L aa ccd cl)) (fun ov s₂ => wpAny (model PG w) A (setAttr ov x v) (fun _ => Q .next) E s₂) E s :=
  nameX_L F hself (set_dict (K := Mine.k.heap_1 w.params) F X₀ N (InstAt.of_news N (.tail _ ha) (.head _)) rfl c1 c2 c4 c3 (getL_some hr) rfl (Upd.head hoff) (Nat.le_trans putL_le (by omega)) fun h' F' N' => h h' _ _ _ F' N') hk hx hd
theorem init_run (hself : m self = some (.ref a)) (hk : cs.kind = .function) (hx : (envX cn cs L aa ccd cl).kindOf self = some .local) (hd : (self == ("__debug__" : Str)) = false) (X₀ : (Mine.k.heap_1 w.params).In h₀) (hbig : h₀.NoLimit)
    (c1 : findIn (Mine.k.heap_1 w.params) (.ref C) "__setattr__" = some (some (.builtin "object.__setattr__"))) (c2 : plainOver (Mine.k.heap_1 w.params) C = true) (c3 : hasDictIn (Mine.k.heap_1 w.params) C = true) :
    ∀ {body : List Stmt} {fs : List (Str × Src)}, Sets (envX cn cs L aa ccd cl) m self body fs → (∀ f ∈ fs, takerIn (Mine.k.heap_1 w.params) C f.1 = some none) →
      ∀ {es : List DictEntry} {n : Nat} {new : Led} {s : Shared} {Q : Flow → Shared → Prop}, Fr h₀ L s.heap m → News h₀ L s.heap ((d, dictOf es n) :: (new ++ rest)) → (a, instObj C d) ∈ new ++ rest → (∀ p ∈ new ++ rest, p.1 ≠ d) → NoRef es → es.length + fs.length ≤ 900 →
      (∀ h' tk es' n' new', Fr h₀ L h' m → News h₀ L h' ((d, dictOf es' n') :: (new' ++ rest)) → (∀ p ∈ new' ++ rest, p.1 ≠ d) → Done w d rest fs es es' new new' → Q .next { s with heap := h', toks := tk }) →
      wpAny (model PG w) A (execs body (envX cn cs L aa ccd cl)) Q E s := by
  have key : ∀ {x : Str} {src : Src} {v : Value} {p1 : Pos} {b : List Stmt} {fs : List (Str × Src)} {es : List DictEntry} {n : Nat} {new new1 : Led} {s s0 : Shared} {Q : Flow → Shared → Prop},
      (takerIn (Mine.k.heap_1 w.params) C x = some none) → (∃ h1 tk1, s = { s0 with heap := h1, toks := tk1 }) →
      (∀ {es : List DictEntry} {n : Nat} {new : Led} {s : Shared} {Q : Flow → Shared → Prop}, Fr h₀ L s.heap m → News h₀ L s.heap ((d, dictOf es n) :: (new ++ rest)) → (a, instObj C d) ∈ new ++ rest → (∀ p ∈ new ++ rest, p.1 ≠ d) → NoRef es → es.length + fs.length ≤ 900 →
        (∀ h' tk es' n' new', Fr h₀ L h' m → News h₀ L h' ((d, dictOf es' n') :: (new' ++ rest)) → (∀ p ∈ new' ++ rest, p.1 ≠ d) → Done w d rest fs es es' new new' → Q .next { s with heap := h', toks := tk }) → wpAny (model PG w) A (execs b (envX cn cs L aa ccd cl)) Q E s) →
      src.Is w new1 v → (∀ p ∈ new, p ∈ new1) → (∀ q ∈ new1, q ∈ new ∨ (d < q.1 ∧ ∀ p ∈ rest, p.1 < q.1)) →
      Fr h₀ L s.heap m → News h₀ L s.heap ((d, dictOf es n) :: (new1 ++ rest)) → (a, instObj C d) ∈ new ++ rest → (∀ p ∈ new1 ++ rest, p.1 ≠ d) → NoRef es → es.length + (fs.length + 1) ≤ 900 →
      (∀ h' tk es' n' new', Fr h₀ L h' m → News h₀ L h' ((d, dictOf es' n') :: (new' ++ rest)) → (∀ p ∈ new' ++ rest, p.1 ≠ d) → Done w d rest ((x, src) :: fs) es es' new new' → Q .next { s0 with heap := h', toks := tk }) →
      wpAny (model PG w) A (eval (.Name self p1) (envX cn cs L aa ccd cl)) (fun ov s₂ => wpAny (model PG w) A (setAttr ov x v) (fun _ s' => wpAny (model PG w) A (execs b (envX cn cs L aa ccd cl)) Q E s') E s₂) E s := by
    intro x src v p1 b fs es n new new1 s s0 Q c4 hs ih hv hsub hlow F N ha hoff hr hl h
    obtain ⟨h1, tk1, rfl⟩ := hs
    have ha' : (a, instObj C d) ∈ new1 ++ rest := (List.mem_append.mp ha).elim (fun q => List.mem_append_left _ (hsub _ q)) fun q => List.mem_append_right _ q
    refine set_field (Q := fun _ s' => wpAny (model PG w) A (execs b (envX cn cs L aa ccd cl)) Q E s') hself hk hx hd X₀ c1 c2 c3 c4 F N ha' hoff hr (by omega) fun h' t n' tk F' N' => ?_
    have hpl := putL_le (k := x) (hs := PyData.keyHash w.params x) (key := .str x t) (v := v) (es := es)
    exact ih F' N' ha' hoff hr.put (by omega) fun h2 tk2 es' n2 new' F2 N2 o2 D => h h2 tk2 es' n2 new' F2 N2 o2 (D.cons hr hv hsub hlow)
  intro body fs hS
  induction hS with
  | nil =>
    intro _ es n new s Q F N ha hoff hr hl h
    exact wpAny_execs_nil (h s.heap s.toks es n new F N hoff ⟨hr, Nat.le_refl _, fun _ h => h, fun h => h, fun _ _ _ h => h, fun _ _ h => nomatch h⟩)
  | none _ ih =>
    intro hC es n new s Q F N ha hoff hr hl h
    exact wpAny_execs_cons (plainObj_wpAny_Assign_Attribute (wpAny_Constant_none (key (src := .val .none) (hC _ (.head _)) ⟨_, _, rfl⟩ (ih fun f hf => hC f (.tail _ hf)) rfl (fun _ h => h) (fun _ h => .inl h) F N ha hoff hr hl h)))
  | bool _ ih =>
    intro hC es n new s Q F N ha hoff hr hl h
    exact wpAny_execs_cons (plainObj_wpAny_Assign_Attribute (wpAny_Constant_bool (key (src := .val (.bool _)) (hC _ (.head _)) ⟨_, _, rfl⟩ (ih fun f hf => hC f (.tail _ hf)) rfl (fun _ h => h) (fun _ h => .inl h) F N ha hoff hr hl h)))
  | int _ ih =>
    intro hC es n new s Q F N ha hoff hr hl h
    exact wpAny_execs_cons (plainObj_wpAny_Assign_Attribute (wpAny_Constant_int (key (src := .int _) (hC _ (.head _)) ⟨_, _, rfl⟩ (ih fun f hf => hC f (.tail _ hf)) ⟨_, rfl⟩ (fun _ h => h) (fun _ h => .inl h) F N ha hoff hr hl h)))
  | var hv hk' hd' _ ih =>
    intro hC es n new s Q F N ha hoff hr hl h
    exact wpAny_execs_cons (plainObj_wpAny_Assign_Attribute (nameX_L F hv (key (src := .val _) (hC _ (.head _)) ⟨_, _, rfl⟩ (ih fun f hf => hC f (.tail _ hf)) rfl (fun _ h => h) (fun _ h => .inl h) F N ha hoff hr hl h) hk hk' hd'))
  | list _ ih =>
    intro hC es n new s Q F N ha hoff hr hl h
    refine wpAny_execs_cons (plainObj_wpAny_Assign_Attribute (wpAny_List (spliced_nil ⟨by decide, ?_⟩)))
    have hlt : ∀ p ∈ (d, dictOf es n) :: (new ++ rest), p.1 < s.heap.objs.size := fun p hp => Heap.lt_size (N p hp).1
    refine key (src := .list) (new1 := (s.heap.objs.size, listOf ([] : List Value).toArray 0) :: new) (hC _ (.head _)) ⟨_, _, rfl⟩ (ih fun f hf => hC f (.tail _ hf)) ⟨_, rfl, .head _⟩ (fun _ h => .tail _ h) (fun q hq => ?_) (F.push _) (News.sw (N.push F _)) ha (List.forall_mem_cons.mpr ⟨Nat.ne_of_gt (hlt _ (.head _)), hoff⟩) hr hl h
    rcases List.mem_cons.mp hq with rfl | hq
    · exact .inr ⟨hlt _ (.head _), fun p hp => hlt p (.tail _ (List.mem_append_right _ hp))⟩
    · exact .inl hq
  | dict _ ih =>
    intro hC es n new s Q F N ha hoff hr hl h
    refine wpAny_execs_cons (plainObj_wpAny_Assign_Attribute (newDict_K F N hbig fun l h' o F' N' hlt lo d1 _ d2 _ => ?_))
    refine key (src := .dict) (new1 := (l, o) :: new) (hC _ (.head _)) ⟨_, _, rfl⟩ (ih fun f hf => hC f (.tail _ hf)) ⟨l, o, rfl, .head _, lo, d1, d2⟩ (fun _ h => .tail _ h) (fun q hq => ?_) F' (News.sw N') ha (List.forall_mem_cons.mpr ⟨Nat.ne_of_gt (hlt _ (.head _)), hoff⟩) hr hl h
    rcases List.mem_cons.mp hq with rfl | hq
    · exact .inr ⟨hlt _ (.head _), fun p hp => hlt p (.tail _ (List.mem_append_right _ hp))⟩
    · exact .inl hq
end
theorem rs_setup : True := by
  w_top off
  trivial
/-! What the law makes ahead of its loops -/
theorem News.t1' {h₀ h : Heap} {L : Addr} {a : Addr × Obj} {l : Led} (N : News h₀ L h (a :: l)) : News h₀ L h l := News.sub1 N fun _ hp => .tail _ hp
theorem News.t1s {h₀ h : Heap} {L : Addr} {a b : Addr × Obj} {l : Led} (N : News h₀ L h (a :: b :: l)) : News h₀ L h (b :: a :: l) := News.sub1 N (by k_extra "m sub")
theorem isDict_nil {prog : Program} {w : World} {K : Type} [DecidableEq K] {knd : KeyKind prog w K} {o : Obj} (h : o.IsDictOf knd []) : ∃ n, o = dictOf [] n := by
  obtain ⟨es, ep, ⟨c1, c2, c3⟩, hd, _, hp, _⟩ := h
  obtain ⟨cls, dct, dat, sl⟩ := o
  simp only at c1 c2 c3 hd
  subst c1 c2 c3 hd
  refine ⟨ep, ?_⟩
  have : es = ([] : List DictEntry).toArray := by
    apply Array.ext'
    cases hx : es.toList with
    | nil => rfl
    | cons a b => rw [hx] at hp; cases hp
  subst this
  rfl
/-- the stash's own dict -/
noncomputable abbrev stO (h1 h2 h3 : Int) (t1 t2 t3 : Tok) (hp gd : Addr) (k : Int) (tk : Tok) : Obj := dictOf [⟨h1, .str (Str.ofString "heap") t1, .ref hp⟩, ⟨h2, .str (Str.ofString "globs") t2, .ref gd⟩, ⟨h3, .str (Str.ofString "generation") t3, .int k tk⟩] 3
/-- a counter in which nothing is noted -/
inductive CtRep (w : World) (news : Led) (ct : Addr) : Prop
  | mk (ctd pl em : Addr) (es2 : List DictEntry) (n2 : Nat) (o1 o2 : Obj) (f0 : (ct, instObj 602 ctd) ∈ news) (f1 : (ctd, dictOf es2 n2) ∈ news) (f2 : getL (Str.ofString "store") es2 = some none) (f3 : getL (Str.ofString "places") es2 = some (some (.ref pl))) (f4 : getL (Str.ofString "empties") es2 = some (some (.ref em))) (f5 : (pl, o1) ∈ news) (f6 : o1.IsDictOf (PySem.intKind PG w) []) (f7 : (pl == sysModules) = false) (f8 : (em, o2) ∈ news) (f9 : o2.IsDictOf (PySem.intKind PG w) []) (f10 : (em == sysModules) = false) : CtRep w news ct
theorem CtRep.mono {w : World} {news news' : Led} {ct : Addr} (h : CtRep w news ct) (hs : ∀ p ∈ news, p ∈ news') : CtRep w news' ct := by
  obtain ⟨ctd, pl, em, es2, n2, o1, o2, d, e, x, f, g, i, j, k, l, q, r⟩ := h
  exact ⟨ctd, pl, em, es2, n2, o1, o2, hs _ d, hs _ e, x, f, g, hs _ i, j, k, hs _ l, q, r⟩
set_option maxRecDepth 100000 in
set_option maxHeartbeats 8000000 in
theorem limits_spec {w : World} {rest : Led} : Spec w 645 [] rest 8 (fun r news' => ∃ lm, r = .ref lm ∧ news' = rest) := by
  intro dp un gd cn cs a ccd cl outer A₀ base h₀ L m s mean mg mb Q E B F X N T hk hd hu hret
  k_dflt (refine' call_cls ?k1 ?k2 ?k3 ?k4 ?k5 ?k6 ?_; (case k1 => k_asm); (case k2 => k_asm); (case k3 => k_asm); (case k4 => k_is); (case k5 => k_is); (case k6 => k_is); k_whole; intro x' d' h' F' N' l1 l2; (try k_lt l1); (try k_lt2 l2); (try k_sweep))
  k_dflt (refine' code_def ?k1 ?k2 ?k3 ?k4 ?k5 ?kA ?kF ?kK ?k6 ?k7 ?k8 ?k9 ?kB ?_ ?c2 ?c3 ?c4 ?c5; (case kA => exact rfl); (case kF => exact rfl); (case kK => assumption); (case k1 => k_asm); (case k2 => k_asm); (case k3 => k_asm); (case k4 => k_asm); (case k5 => k_asm); (case k6 => k_is); (case k7 => k_is); (case k8 => ktr_room); (case k9 => first | exact BindsTo.of_eq rfl | exact binds_K (by k_in) rfl (by k_is) rfl rfl rfl); (case c5 => decide); (case kB => exact locs rfl); (case c2 => exact rfl); (case c3 => exact rfl); (case c4 => exact rfl); k_whole; intro g' L' h' FG' F' N' B' X' T'; (try dsimp only); (try k_fold))
  k_steps
  exact hret _ _ _ _ (by k_asm) (News.t1' (News.t1' (by k_asm))) (exI1 ⟨rfl, rfl⟩)
set_option maxRecDepth 100000 in
set_option maxHeartbeats 8000000 in
theorem heap_spec {w : World} {lim : Addr} {rest : Led} : Spec w 180 [.ref lim] rest 8 (fun r news' => ∃ hp hpd zl h1 h2 h3 t1 t2 t3 tk, r = .ref hp ∧ news' = (hpd, hpO h1 h2 h3 t1 t2 t3 (.ref lim) (.ref zl) 0 tk) :: (hp, instObj 180 hpd) :: rest ∧ hpd < hp ∧ ∀ p ∈ rest, p.1 < hpd) := by
  intro dp un gd cn cs a ccd cl outer A₀ base h₀ L m s mean mg mb Q E B F X N T hk hd hu hret
  k_dflt (refine' call_cls ?k1 ?k2 ?k3 ?k4 ?k5 ?k6 ?_; (case k1 => k_asm); (case k2 => k_asm); (case k3 => k_asm); (case k4 => k_is); (case k5 => k_is); (case k6 => k_is); k_whole; intro x' d' h' F' N' l1 l2; (try k_lt l1); (try k_lt2 l2); (try k_sweep))
  k_dflt (refine' code_def ?k1 ?k2 ?k3 ?k4 ?k5 ?kA ?kF ?kK ?k6 ?k7 ?k8 ?k9 ?kB ?_ ?c2 ?c3 ?c4 ?c5; (case kA => exact rfl); (case kF => exact rfl); (case kK => assumption); (case k1 => k_asm); (case k2 => k_asm); (case k3 => k_asm); (case k4 => k_asm); (case k5 => k_asm); (case k6 => k_is); (case k7 => k_is); (case k8 => ktr_room); (case k9 => first | exact BindsTo.of_eq rfl | exact binds_K (by k_in) rfl (by k_is) rfl rfl rfl); (case c5 => decide); (case kB => exact locs rfl); (case c2 => exact rfl); (case c3 => exact rfl); (case c4 => exact rfl); k_whole; intro g' L' h' FG' F' N' B' X' T'; (try dsimp only); (try k_fold))
  k_steps
  exact hret _ _ _ _ (by k_asm) (News.t1s (News.t1' (by k_asm))) (exI10 ⟨rfl, rfl, by assumption, allLt_mem (by assumption)⟩)
set_option maxRecDepth 100000 in
set_option maxHeartbeats 8000000 in
theorem counter_spec {w : World} {hp : Addr} {rest : Led} : Spec w 602 [.ref hp, .none] rest 8 (fun r news' => ∃ ct new b, r = .ref ct ∧ news' = new ++ rest ∧ CtRep w new ct ∧ (∀ p ∈ rest, p.1 < b) ∧ Above b new) := by
  intro dp un gd cn cs a ccd cl outer A₀ base h₀ L m s mean mg mb Q E B F X N T hk hd hu hret
  k_dflt (refine' call_cls ?k1 ?k2 ?k3 ?k4 ?k5 ?k6 ?_; (case k1 => k_asm); (case k2 => k_asm); (case k3 => k_asm); (case k4 => k_is); (case k5 => k_is); (case k6 => k_is); k_whole; intro x' d' h' F' N' l1 l2; (try k_lt l1); (try k_lt2 l2); (try k_sweep))
  k_dflt (refine' code_def ?k1 ?k2 ?k3 ?k4 ?k5 ?kA ?kF ?kK ?k6 ?k7 ?k8 ?k9 ?kB ?_ ?c2 ?c3 ?c4 ?c5; (case kA => exact rfl); (case kF => exact rfl); (case kK => assumption); (case k1 => k_asm); (case k2 => k_asm); (case k3 => k_asm); (case k4 => k_asm); (case k5 => k_asm); (case k6 => k_is); (case k7 => k_is); (case k8 => ktr_room); (case k9 => first | exact BindsTo.of_eq rfl | exact binds_K (by k_in) rfl (by k_is) rfl rfl rfl); (case c5 => decide); (case kB => exact locs rfl); (case c2 => exact rfl); (case c3 => exact rfl); (case c4 => exact rfl); k_whole; intro g' L' h' FG' F' N' B' X' T'; (try dsimp only); (try k_fold))
  k_steps
  refine hret _ _ _ _ (by k_asm) (by k_asm) ⟨_, [(_, _), (_, _), (_, _), (_, _)], d', rfl, rfl, ⟨_, _, _, _, _, _, _, by k_mem, by k_mem, by k_get, by k_get, by k_get, by k_mem, by assumption, by assumption, by k_mem, by assumption, by assumption⟩, allLt_mem (by assumption), ?_⟩
  exact List.forall_mem_cons.mpr ⟨Nat.le_of_lt (by assumption), List.forall_mem_cons.mpr ⟨Nat.le_of_lt (by assumption), List.forall_mem_cons.mpr ⟨Nat.le_of_lt (by assumption), List.forall_mem_cons.mpr ⟨Nat.le_refl _, fun _ h => nomatch h⟩⟩⟩⟩
set_option maxRecDepth 100000 in
set_option maxHeartbeats 8000000 in
theorem stash_spec {w : World} {hp : Addr} {rest : Led} : Spec w 729 [.ref hp] rest 8 (fun r news' => ∃ st std gd o h1 h2 h3 t1 t2 t3 tk, r = .ref st ∧ news' = (gd, o) :: (st, instObj 729 std) :: (std, stO h1 h2 h3 t1 t2 t3 hp gd 0 tk) :: rest ∧ o.IsDictOf (PySem.strKind PG w) [] ∧ (gd == sysModules) = false ∧ std < st ∧ st < gd ∧ ∀ p ∈ rest, p.1 < std) := by
  intro dp un gd cn cs a ccd cl outer A₀ base h₀ L m s mean mg mb Q E B F X N T hk hd hu hret
  k_dflt (refine' call_cls ?k1 ?k2 ?k3 ?k4 ?k5 ?k6 ?_; (case k1 => k_asm); (case k2 => k_asm); (case k3 => k_asm); (case k4 => k_is); (case k5 => k_is); (case k6 => k_is); k_whole; intro x' d' h' F' N' l1 l2; (try k_lt l1); (try k_lt2 l2); (try k_sweep))
  k_dflt (refine' code_def ?k1 ?k2 ?k3 ?k4 ?k5 ?kA ?kF ?kK ?k6 ?k7 ?k8 ?k9 ?kB ?_ ?c2 ?c3 ?c4 ?c5; (case kA => exact rfl); (case kF => exact rfl); (case kK => assumption); (case k1 => k_asm); (case k2 => k_asm); (case k3 => k_asm); (case k4 => k_asm); (case k5 => k_asm); (case k6 => k_is); (case k7 => k_is); (case k8 => ktr_room); (case k9 => first | exact BindsTo.of_eq rfl | exact binds_K (by k_in) rfl (by k_is) rfl rfl rfl); (case c5 => decide); (case kB => exact locs rfl); (case c2 => exact rfl); (case c3 => exact rfl); (case c4 => exact rfl); k_whole; intro g' L' h' FG' F' N' B' X' T'; (try dsimp only); (try k_fold))
  k_steps
  exact hret _ _ _ _ (by k_asm) (by k_asm) (exI11 ⟨rfl, rfl, by assumption, by assumption, by assumption, by assumption, allLt_mem (by assumption)⟩)
theorem list_ne_dict {w : World} {h₀ h : Heap} {L : Addr} {news : Led} {a b : Addr} {vs : List Value} {n : Nat} {o : Obj} {kvs : List (Str × Value)} (N : News h₀ L h news) (h1 : (a, listOf vs.toArray n) ∈ news) (h2 : (b, o) ∈ news) (hd : o.IsDictOf (PySem.strKind PG w) kvs) : @Ne Nat a b := by
  rintro rfl
  have e := (N _ h1).1.symm.trans (N _ h2).1
  obtain ⟨es, ep, ⟨c1, _, _⟩, _⟩ := hd
  have e1 : listOf vs.toArray n = o := Option.some.inj e
  rw [← e1] at c1
  simp at c1
theorem run_done {w : World} {h₀ h : Heap} {L d x hp ct st lm : Addr} {es : List DictEntry} {n : Nat} {new rest : Led} (N : News h₀ L h ((d, dictOf es n) :: (new ++ (x, instObj 623 d) :: rest))) (l2 : @LT.lt Nat _ d x) (l1 : ∀ p ∈ rest, p.1 < d)
    (D : Done w d ((x, instObj 623 d) :: rest) [(Str.ofString "heap", .val (.ref hp)), (Str.ofString "counter", .val (.ref ct)), (Str.ofString "stash", .val (.ref st)), (Str.ofString "limits", .val (.ref lm)), (Str.ofString "nodes", .dict), (Str.ofString "lvs", .dict), (Str.ofString "statements", .dict), (Str.ofString "funcs", .dict), (Str.ofString "operators", .dict), (Str.ofString "out", .list), (Str.ofString "err", .list), (Str.ofString "saves", .list), (Str.ofString "frames", .list), (Str.ofString "match", .val .none), (Str.ofString "patterns", .dict), (Str.ofString "steps", .int 0), (Str.ofString "methods", .val .none), (Str.ofString "call_code", .val .none), (Str.ofString "compile_text", .val .none)] [] es [] new) :
    ∃ rn rnd sv pd es' n' pn c, Value.ref x = .ref rn ∧ News h₀ L h ((rnd, dictOf es' n') :: (pd, patX w none pn) :: (sv, listOf ([] : List Value).toArray c) :: (rn, instObj 623 rnd) :: rest) ∧
    RunEs es' hp ct st sv pd .none ∧ (pd == sysModules) = false ∧ rnd < rn ∧ rn < sv ∧ rn < pd ∧ @Ne Nat sv pd ∧ ∀ p ∈ rest, p.1 < rnd := by
  have hn := D.has (by simp only [List.map_cons, List.map_nil]; decide +kernel)
  have hl := D.low fun _ h => nomatch h
  obtain ⟨v1, a1, rfl⟩ := hn _ (.head _)
  obtain ⟨v2, a2, rfl⟩ := hn _ (.tail _ (.head _))
  obtain ⟨v3, a3, rfl⟩ := hn _ (.tail _ (.tail _ (.head _)))
  obtain ⟨v4, a4, sv, rfl, m4⟩ := hn (Str.ofString "saves", .list) (by simp)
  obtain ⟨v5, a5, pd, o, rfl, m5, lo5, hd5, _⟩ := hn (Str.ofString "patterns", .dict) (by simp)
  obtain ⟨v6, a6, rfl⟩ := hn (Str.ofString "match", .val .none) (by simp)
  have hne := list_ne_dict N (.tail _ (List.mem_append_left _ m4)) (.tail _ (List.mem_append_left _ m5)) hd5
  obtain ⟨pn, rfl⟩ := isDict_nil hd5
  have b4 := (hl _ m4).2 (x, instObj 623 d) (.head _)
  have b5 := (hl _ m5).2 (x, instObj 623 d) (.head _)
  refine ⟨x, d, sv, pd, es, n, pn, 0, rfl, News.sub1 N ?_, ⟨a1, a2, a3, a4, a5, a6, Nat.le_trans D.len (Nat.le_of_ble_eq_true rfl)⟩, lo5, l2, b4, b5, hne, l1⟩
  refine List.forall_mem_cons.mpr ⟨.head _, List.forall_mem_cons.mpr ⟨.tail _ (List.mem_append_left _ m5), List.forall_mem_cons.mpr ⟨.tail _ (List.mem_append_left _ m4), fun p hp => .tail _ (List.mem_append_right _ hp)⟩⟩⟩
set_option maxRecDepth 100000 in
set_option maxHeartbeats 8000000 in
theorem run_spec {w : World} {hp ct st lm : Addr} {rest : Led} : Spec w 623 [.ref hp, .ref ct, .ref st, .ref lm] rest 8 (fun r news' => ∃ rn rnd sv pd es n pn c, r = .ref rn ∧ news' = (rnd, dictOf es n) :: (pd, patX w none pn) :: (sv, listOf ([] : List Value).toArray c) :: (rn, instObj 623 rnd) :: rest ∧
    RunEs es hp ct st sv pd .none ∧ (pd == sysModules) = false ∧ rnd < rn ∧ rn < sv ∧ rn < pd ∧ @Ne Nat sv pd ∧ ∀ p ∈ rest, p.1 < rnd) := by
  intro dp un gd cn cs a ccd cl outer A₀ base h₀ L m s mean mg mb Q E B F X N T hk hd hu hret
  k_dflt (refine' call_cls ?k1 ?k2 ?k3 ?k4 ?k5 ?k6 ?_; (case k1 => k_asm); (case k2 => k_asm); (case k3 => k_asm); (case k4 => k_is); (case k5 => k_is); (case k6 => k_is); k_whole; intro x' d' h' F' N' l1 l2; (try k_lt l1); (try k_lt2 l2); (try k_sweep))
  k_dflt (refine' code_def ?k1 ?k2 ?k3 ?k4 ?k5 ?kA ?kF ?kK ?k6 ?k7 ?k8 ?k9 ?kB ?_ ?c2 ?c3 ?c4 ?c5; (case kA => exact rfl); (case kF => exact rfl); (case kK => assumption); (case k1 => k_asm); (case k2 => k_asm); (case k3 => k_asm); (case k4 => k_asm); (case k5 => k_asm); (case k6 => k_is); (case k7 => k_is); (case k8 => ktr_room); (case k9 => first | exact BindsTo.of_eq rfl | exact binds_K (by k_in) rfl (by k_is) rfl rfl rfl); (case c5 => decide); (case kB => exact locs rfl); (case c2 => exact rfl); (case c3 => exact rfl); (case c4 => exact rfl); k_whole; intro g' L' h' FG' F' N' B' X' T'; (try dsimp only); (try k_fold))
  k_dflt (refine' init_run (self := Str.ofString "self") (d := d') (a := x') (C := 623) (fs := [(Str.ofString "heap", .val (.ref hp)), (Str.ofString "counter", .val (.ref ct)), (Str.ofString "stash", .val (.ref st)), (Str.ofString "limits", .val (.ref lm)), (Str.ofString "nodes", .dict), (Str.ofString "lvs", .dict), (Str.ofString "statements", .dict), (Str.ofString "funcs", .dict), (Str.ofString "operators", .dict), (Str.ofString "out", .list), (Str.ofString "err", .list), (Str.ofString "saves", .list), (Str.ofString "frames", .list), (Str.ofString "match", .val .none), (Str.ofString "patterns", .dict), (Str.ofString "steps", .int 0), (Str.ofString "methods", .val .none), (Str.ofString "call_code", .val .none), (Str.ofString "compile_text", .val .none)]) (rest := (x', instObj 623 d') :: rest) (new := []) ?i1 ?i2 ?i3 ?i4 ?i5 ?i6 ?i7 ?i8 ?i9 ?iS ?iC ?iF ?iN ?iA ?iO ?iR ?iL ?_)
  case iF => k_asm
  case i1 => rfl
  case i2 => rfl
  case i3 => rfl
  case i4 => decide
  case i5 => k_asm
  case i6 => exact Top.nolimit (by assumption)
  case i7 => k_is
  case i8 => k_is
  case i9 => k_is
  case iS => exact (.var (by with_unfolding_all rfl) (by with_unfolding_all rfl) (by decide) (.var (by with_unfolding_all rfl) (by with_unfolding_all rfl) (by decide) (.var (by with_unfolding_all rfl) (by with_unfolding_all rfl) (by decide) (.var (by with_unfolding_all rfl) (by with_unfolding_all rfl) (by decide) (.dict (.dict (.dict (.dict (.dict (.list (.list (.list (.list (.none (.dict (.int (.none (.none (.none .nil)))))))))))))))))))
  case iC => simp only [List.forall_mem_cons, List.not_mem_nil, false_implies, implies_true, and_true]; repeat' (first | apply And.intro | k_is)
  case iN => exact News.sw (by k_asm)
  case iA => exact .head _
  case iO => exact List.forall_mem_cons.mpr ⟨Nat.ne_of_gt l2, allLt_ne l1⟩
  case iR => rfl
  case iL => exact Nat.le_of_ble_eq_true rfl
  intro h9 tk9 es9 n9 new9 F9 N9 o9 D9


  k_steps
  obtain ⟨rn, rnd, sv, pd, es, n, pn, c, e1, NN, z⟩ := run_done (by with_reducible assumption) l2 (allLt_mem l1) D9
  exact hret _ _ _ _ (by with_reducible assumption) NN ⟨rn, rnd, sv, pd, es, n, pn, c, e1, rfl, z⟩
set_option maxRecDepth 100000 in
set_option maxHeartbeats 8000000 in
theorem prog_spec {w : World} {el nd : Addr} {g z : Int} {tg tz : Tok} {rest : Led} : Spec w 666 [.ref el, .int g tg, .int z tz, .ref nd] rest 8 (fun r news' => ∃ pg pgd es n, r = .ref pg ∧ news' = (pg, instObj 666 pgd) :: (pgd, dictOf es n) :: rest ∧ getL (Str.ofString "names") es = some (some (.ref nd)) ∧ (∀ p ∈ rest, p.1 < pgd) ∧ pgd < pg) := by
  intro dp un gd cn cs a ccd cl outer A₀ base h₀ L m s mean mg mb Q E B F X N T hk hd hu hret
  k_dflt (refine' call_cls ?k1 ?k2 ?k3 ?k4 ?k5 ?k6 ?_; (case k1 => k_asm); (case k2 => k_asm); (case k3 => k_asm); (case k4 => k_is); (case k5 => k_is); (case k6 => k_is); k_whole; intro x' d' h' F' N' l1 l2; (try k_lt l1); (try k_lt2 l2); (try k_sweep))
  k_dflt (refine' code_def ?k1 ?k2 ?k3 ?k4 ?k5 ?kA ?kF ?kK ?k6 ?k7 ?k8 ?k9 ?kB ?_ ?c2 ?c3 ?c4 ?c5; (case kA => exact rfl); (case kF => exact rfl); (case kK => assumption); (case k1 => k_asm); (case k2 => k_asm); (case k3 => k_asm); (case k4 => k_asm); (case k5 => k_asm); (case k6 => k_is); (case k7 => k_is); (case k8 => ktr_room); (case k9 => first | exact BindsTo.of_eq rfl | exact binds_K (by k_in) rfl (by k_is) rfl rfl rfl); (case c5 => decide); (case kB => exact locs rfl); (case c2 => exact rfl); (case c3 => exact rfl); (case c4 => exact rfl); k_whole; intro g' L' h' FG' F' N' B' X' T'; (try dsimp only); (try k_fold))
  k_steps
  exact hret _ _ _ _ (by k_asm) (by k_asm) (exI4 ⟨rfl, rfl, by k_get, allLt_mem (by assumption), by assumption⟩)
theorem rs_things : True := by
  w_top off
  trivial
/-! The program's things: what their makers leave -/
set_option maxRecDepth 100000 in
set_option maxHeartbeats 8000000 in
theorem number_spec {w : World} {hp hpd : Addr} {l1 l2 l3 k : Int} {u1 u2 u3 tk : Tok} {lim zl : Value} {rest : Led} (a5 : (hp, instObj 180 hpd) ∈ rest) (o1 : ∀ p ∈ rest, p.1 ≠ hpd) :
    Spec w 142 [.ref hp] ((hpd, hpO l1 l2 l3 u1 u2 u3 lim zl k tk) :: rest) 4 (fun r news' => ∃ t tk', r = .int (k + 1) t ∧ news' = (hpd, hpO l1 l2 l3 u1 u2 u3 lim zl (k + 1) tk') :: rest) := by
  intro dp un gd' cn cs a ccd cl outer A₀ base h₀ L m s mean mg mb Q E B F X N T hk hd hu hret
  refine wpAny_call ?_
  k_dflt (refine' code_def (binds := [(Str.ofString "self", .ref hp)]) ?k1 ?k2 ?k3 ?k4 ?k5 ?kA ?kF ?kK ?k6 ?k7 ?k8 ?k9 ?kB ?_ ?c2 ?c3 ?c4 ?c5; (case kA => exact rfl); (case kF => exact rfl); (case kK => assumption); (case k1 => k_asm); (case k2 => k_asm); (case k3 => k_asm); (case k4 => k_asm); (case k5 => k_asm); (case k6 => k_is); (case k7 => k_is); (case k8 => ktr_room); (case k9 => first | exact BindsTo.of_eq rfl | exact binds_K (by k_in) rfl (by k_is) rfl rfl rfl); (case c5 => decide); (case kB => exact locs rfl); (case c2 => exact rfl); (case c3 => exact rfl); (case c4 => exact rfl); k_whole; intro g' L' h' FG' F' N' B' X' T'; (try dsimp only); (try k_fold); k_extra "fA")
  k_steps
  exact hret _ _ _ _ (by k_asm) (by k_asm) (exI2 ⟨rfl, rfl⟩)
set_option maxRecDepth 100000 in
set_option maxHeartbeats 8000000 in
theorem thing_spec {w : World} {x d C : Addr} {num : Int} {t : Tok} {es : List DictEntry} {n : Nat} {rest : Led} (c1 : findIn (Mine.k.heap_1 w.params) (.ref C) "__setattr__" = some (some (.builtin "object.__setattr__"))) (c2 : plainOver (Mine.k.heap_1 w.params) C = true) (c3 : hasDictIn (Mine.k.heap_1 w.params) C = true)
    (c4 : ∀ f ∈ ([(Str.ofString "number", .val (.int num t)), (Str.ofString "count", .int 0), (Str.ofString "blessed", .val .none), (Str.ofString "weak", .list), (Str.ofString "is_destroyed", .val (.bool false)), (Str.ofString "is_freed", .val (.bool false))] : List (Str × Src)), takerIn (Mine.k.heap_1 w.params) C f.1 = some none) (ha : (x, instObj C d) ∈ rest) (hoff : ∀ p ∈ rest, p.1 ≠ d) (hr : NoRef es) (hl : es.length ≤ 100) :
    Spec w 35 [.ref x, .int num t] ((d, dictOf es n) :: rest) 4 (fun r news' => ∃ es' n' new, r = .none ∧ news' = (d, dictOf es' n') :: (new ++ rest) ∧ (∀ p ∈ new ++ rest, p.1 ≠ d) ∧ Done w d rest [(Str.ofString "number", .val (.int num t)), (Str.ofString "count", .int 0), (Str.ofString "blessed", .val .none), (Str.ofString "weak", .list), (Str.ofString "is_destroyed", .val (.bool false)), (Str.ofString "is_freed", .val (.bool false))] es es' [] new) := by
  intro dp un gd' cn cs a ccd cl outer A₀ base h₀ L m s mean mg mb Q E B F X N T hk hd hu hret
  refine wpAny_call ?_
  k_dflt (refine' code_def (binds := [(Str.ofString "self", .ref x), (Str.ofString "number", .int num t)]) ?k1 ?k2 ?k3 ?k4 ?k5 ?kA ?kF ?kK ?k6 ?k7 ?k8 ?k9 ?kB ?_ ?c2 ?c3 ?c4 ?c5; (case kA => exact rfl); (case kF => exact rfl); (case kK => assumption); (case k1 => k_asm); (case k2 => k_asm); (case k3 => k_asm); (case k4 => k_asm); (case k5 => k_asm); (case k6 => k_is); (case k7 => k_is); (case k8 => ktr_room); (case k9 => first | exact BindsTo.of_eq rfl | exact binds_K (by k_in) rfl (by k_is) rfl rfl rfl); (case c5 => decide); (case kB => exact locs rfl); (case c2 => exact rfl); (case c3 => exact rfl); (case c4 => exact rfl); k_whole; intro g' L' h' FG' F' N' B' X' T'; (try dsimp only); (try k_fold); k_extra "fA")
  k_dflt (refine' init_run (self := Str.ofString "self") (d := d) (a := x) (C := C) (fs := [(Str.ofString "number", .val (.int num t)), (Str.ofString "count", .int 0), (Str.ofString "blessed", .val .none), (Str.ofString "weak", .list), (Str.ofString "is_destroyed", .val (.bool false)), (Str.ofString "is_freed", .val (.bool false))]) (rest := rest) (new := []) ?i1 ?i2 ?i3 ?i4 ?i5 ?i6 ?i7 ?i8 ?i9 ?iS ?iC ?iF ?iN ?iA ?iO ?iR ?iL ?_)
  case iF => k_asm
  case i1 => rfl
  case i2 => rfl
  case i3 => rfl
  case i4 => decide
  case i5 => k_asm
  case i6 => exact Top.nolimit (by assumption)
  case i7 => exact c1
  case i8 => exact c2
  case i9 => exact c3
  case iS => exact (.var (by with_unfolding_all rfl) (by with_unfolding_all rfl) (by decide) (.int (.none (.list (.bool (.bool .nil))))))
  case iC => exact c4
  case iN => k_asm
  case iA => exact ha
  case iO => exact hoff
  case iR => exact hr
  case iL => simp only [List.length_cons, List.length_nil]; omega
  intro h9 tk9 es9 n9 new9 F9 N9 o9 D9
  k_steps
  exact hret _ _ _ _ (by k_asm) (by k_asm) (exI3 ⟨rfl, rfl, o9, D9⟩)
/-- an instance just made, its dict not written out -/
structure Made (C x d : Addr) (es : List DictEntry) (new rest : Led) : Prop where
  lt : d < x
  low : ∀ p ∈ rest, p.1 < d
  off : ∀ p ∈ new ++ (x, instObj C d) :: rest, p.1 ≠ d
  up : ∀ q ∈ new, d < q.1 ∧ ∀ p ∈ (x, instObj C d) :: rest, p.1 < q.1
  noref : NoRef es
  len : es.length ≤ 30
theorem made_of {w : World} {C x d : Addr} {fs1 fs2 : List (Str × Src)} {es1 es2 : List DictEntry} {new1 new2 rest : Led} (h1 : d < x) (h2 : ∀ p ∈ rest, p.1 < d) (D1 : Done w d ((x, instObj C d) :: rest) fs1 [] es1 [] new1) (D2 : Done w d (new1 ++ (x, instObj C d) :: rest) fs2 es1 es2 [] new2)
    (o2 : ∀ p ∈ new2 ++ (new1 ++ (x, instObj C d) :: rest), p.1 ≠ d) (hl : fs1.length + fs2.length ≤ 30) : Made C x d es2 (new2 ++ new1) rest where
  lt := h1
  low := h2
  off := by rw [List.append_assoc]; exact o2
  up := fun q hq => (List.mem_append.mp hq).elim (fun hq => ⟨(D2.low (fun _ h => nomatch h) q hq).1, fun p hp => (D2.low (fun _ h => nomatch h) q hq).2 p (List.mem_append_right _ hp)⟩) fun hq => D1.low (fun _ h => nomatch h) q hq
  noref := D2.noref
  len := by
    have a := D1.len
    have b := D2.len
    simp only [List.length_nil] at a
    omega
theorem News.app {h₀ h : Heap} {L : Addr} {a : Addr × Obj} {l1 l2 l3 : Led} (N : News h₀ L h (a :: (l1 ++ (l2 ++ l3)))) : News h₀ L h (a :: ((l1 ++ l2) ++ l3)) := by rw [List.append_assoc]; exact N
set_option maxRecDepth 100000 in
set_option maxHeartbeats 8000000 in
theorem glob_cls {w : World} {num : Int} {t : Tok} {nm : Str} {tn : Tok} {rest : Led} :
    Spec w 97 [.int num t, .str nm tn] rest 6 (fun r news' => ∃ x d es n new, r = .ref x ∧ news' = (d, dictOf es n) :: (new ++ (x, instObj 97 d) :: rest) ∧ Made 97 x d es new rest ∧ getL (Str.ofString "hash") es = some (some .none)) := by
  intro dp un gd' cn cs a ccd cl outer A₀ base h₀ L m s mean mg mb Q E B F X N T hk hd hu hret
  k_dflt (refine' call_cls ?k1 ?k2 ?k3 ?k4 ?k5 ?k6 ?_; (case k1 => k_asm); (case k2 => k_asm); (case k3 => k_asm); (case k4 => k_is); (case k5 => k_is); (case k6 => k_is); k_whole; intro x' d' h' F' N' l1 l2)
  k_dflt (refine' code_def (binds := [(Str.ofString "self", .ref x'), (Str.ofString "number", .int num t), (Str.ofString "name", .str nm tn)]) ?k1 ?k2 ?k3 ?k4 ?k5 ?kA ?kF ?kK ?k6 ?k7 ?k8 ?k9 ?kB ?_ ?c2 ?c3 ?c4 ?c5; (case kA => exact rfl); (case kF => exact rfl); (case kK => assumption); (case k1 => k_asm); (case k2 => k_asm); (case k3 => k_asm); (case k4 => k_asm); (case k5 => k_asm); (case k6 => k_is); (case k7 => k_is); (case k8 => ktr_room); (case k9 => first | exact BindsTo.of_eq rfl | exact binds_K (by k_in) rfl (by k_is) rfl rfl rfl); (case c5 => decide); (case kB => exact locs rfl); (case c2 => exact rfl); (case c3 => exact rfl); (case c4 => exact rfl); k_whole; intro g' L' h' FG' F' N' B' X' T'; (try dsimp only); (try k_fold); k_extra "fA")
  repeat ((fail_if_success (with_reducible show wpAny _ _ (call (Value.ref 35) _) _ _ _)); (first | (k_unfold; (try dsimp only)) | walk1 | (dsimp only; walk1)))
  k_here
  k_dflt (refine' Spec.use3 (thing_spec (C := 97) (x := x') (d := d') ?c1 ?c2 ?c3 ?c4 ?ha ?hoff ?hr ?hl) ?k1 ?k2 ?k3 ?k4 ?k5 ?kK ?kd ?ku ?_; (case k1 => k_asm); (case k2 => k_asm); (case k3 => k_asm); (case k4 => exact News.sw (by k_asm)); (case k5 => k_asm); (case kK => first | exact rfl | assumption); (case c1 => k_is); (case c2 => k_is); (case c3 => k_is); (case c4 => simp only [List.forall_mem_cons, List.not_mem_nil, false_implies, implies_true, and_true]; repeat (first | (refine ⟨?_, ?_⟩; focus (k_is)) | k_is)); (case ha => exact .head _); (case hoff => exact List.forall_mem_cons.mpr ⟨Nat.ne_of_gt l2, fun p hp => Nat.ne_of_lt (l1 p hp)⟩); (case hr => rfl); (case hl => exact Nat.zero_le _); (case kd => ktr_room); (case ku => (have hcL9 := cLine_is; (simp only [units_under_make]); (try dsimp only [ktrTop]); omega)))
  intro es1 n1 new1 h9 tk9 F9 N9 p9
  refine' an2 p9 ?_
  clear p9
  intro o1 D1
  refine wpAny_tok ?_
  intro tk9
  repeat ((fail_if_success (with_reducible show wpAny _ _ (execs (Stmt.Assign _ _ _ :: _) _) _ _ _)); (first | (k_unfold; (try dsimp only)) | walk1 | (dsimp only; walk1)))
  k_dflt (refine' init_run (self := Str.ofString "self") (d := d') (a := x') (C := 97) (fs := [(Str.ofString "name", .val (.str nm tn)), (Str.ofString "scalar", .val .none), (Str.ofString "array", .val .none), (Str.ofString "hash", .val .none), (Str.ofString "code", .val .none)]) (rest := new1 ++ (x', instObj 97 d') :: rest) (new := []) ?i1 ?i2 ?i3 ?i4 ?i5 ?i6 ?i7 ?i8 ?i9 ?iS ?iC ?iF ?iN ?iA ?iO ?iR ?iL ?_)
  case iF => k_asm
  case i1 => rfl
  case i2 => rfl
  case i3 => rfl
  case i4 => decide
  case i5 => k_asm
  case i6 => exact Top.nolimit (by assumption)
  case i7 => k_is
  case i8 => k_is
  case i9 => k_is
  case iS => exact (.var (by with_unfolding_all rfl) (by with_unfolding_all rfl) (by decide) (.none (.none (.none (.none .nil)))))
  case iC => simp only [List.forall_mem_cons, List.not_mem_nil, false_implies, implies_true, and_true]; repeat (first | (refine ⟨?_, ?_⟩; focus (k_is)) | k_is)
  case iN => k_asm
  case iA => exact List.mem_append_right _ (List.mem_append_right _ (.head _))
  case iO => exact o1
  case iR => exact D1.noref
  case iL => have := D1.len; simp only [List.length_cons, List.length_nil] at this ⊢; omega
  intro h9 tk9 es9 n9 new9 F9 N9 o9 D9
  have hN1 := D1.has (by simp only [List.map_cons, List.map_nil]; decide +kernel)
  have hN2 := D9.has (by simp only [List.map_cons, List.map_nil]; decide +kernel)
  have hM := made_of l2 l1 D1 D9 o9 (Nat.le_of_ble_eq_true rfl)
  k_steps
  refine hret _ _ _ _ (by k_asm) (News.app (by k_asm)) (exI5 ⟨rfl, rfl, hM, ?_⟩)
  obtain ⟨v, a, rfl⟩ := hN2 _ (.tail _ (.tail _ (.tail _ (.head _))))
  exact a
set_option maxRecDepth 100000 in
set_option maxHeartbeats 8000000 in
theorem hash_cls {w : World} {num : Int} {t : Tok} {rest : Led} :
    Spec w 78 [.int num t] rest 6 (fun r news' => ∃ x d es n new, r = .ref x ∧ news' = (d, dictOf es n) :: (new ++ (x, instObj 78 d) :: rest) ∧ Made 78 x d es new rest ∧ getL (Str.ofString "number") es = some (some (.int num t)) ∧ (∃ tc, getL (Str.ofString "count") es = some (some (.int 0 tc))) ∧ getL (Str.ofString "tied") es = some (some .none)) := by
  intro dp un gd' cn cs a ccd cl outer A₀ base h₀ L m s mean mg mb Q E B F X N T hk hd hu hret
  k_dflt (refine' call_cls ?k1 ?k2 ?k3 ?k4 ?k5 ?k6 ?_; (case k1 => k_asm); (case k2 => k_asm); (case k3 => k_asm); (case k4 => k_is); (case k5 => k_is); (case k6 => k_is); k_whole; intro x' d' h' F' N' l1 l2)
  k_dflt (refine' code_def (binds := [(Str.ofString "self", .ref x'), (Str.ofString "number", .int num t)]) ?k1 ?k2 ?k3 ?k4 ?k5 ?kA ?kF ?kK ?k6 ?k7 ?k8 ?k9 ?kB ?_ ?c2 ?c3 ?c4 ?c5; (case kA => exact rfl); (case kF => exact rfl); (case kK => assumption); (case k1 => k_asm); (case k2 => k_asm); (case k3 => k_asm); (case k4 => k_asm); (case k5 => k_asm); (case k6 => k_is); (case k7 => k_is); (case k8 => ktr_room); (case k9 => first | exact BindsTo.of_eq rfl | exact binds_K (by k_in) rfl (by k_is) rfl rfl rfl); (case c5 => decide); (case kB => exact locs rfl); (case c2 => exact rfl); (case c3 => exact rfl); (case c4 => exact rfl); k_whole; intro g' L' h' FG' F' N' B' X' T'; (try dsimp only); (try k_fold); k_extra "fA")
  repeat ((fail_if_success (with_reducible show wpAny _ _ (call (Value.ref 35) _) _ _ _)); (first | (k_unfold; (try dsimp only)) | walk1 | (dsimp only; walk1)))
  k_here
  k_dflt (refine' Spec.use3 (thing_spec (C := 78) (x := x') (d := d') ?c1 ?c2 ?c3 ?c4 ?ha ?hoff ?hr ?hl) ?k1 ?k2 ?k3 ?k4 ?k5 ?kK ?kd ?ku ?_; (case k1 => k_asm); (case k2 => k_asm); (case k3 => k_asm); (case k4 => exact News.sw (by k_asm)); (case k5 => k_asm); (case kK => first | exact rfl | assumption); (case c1 => k_is); (case c2 => k_is); (case c3 => k_is); (case c4 => simp only [List.forall_mem_cons, List.not_mem_nil, false_implies, implies_true, and_true]; repeat (first | (refine ⟨?_, ?_⟩; focus (k_is)) | k_is)); (case ha => exact .head _); (case hoff => exact List.forall_mem_cons.mpr ⟨Nat.ne_of_gt l2, fun p hp => Nat.ne_of_lt (l1 p hp)⟩); (case hr => rfl); (case hl => exact Nat.zero_le _); (case kd => ktr_room); (case ku => (have hcL9 := cLine_is; (simp only [units_under_make]); (try dsimp only [ktrTop]); omega)))
  intro es1 n1 new1 h9 tk9 F9 N9 p9
  refine' an2 p9 ?_
  clear p9
  intro o1 D1
  refine wpAny_tok ?_
  intro tk9
  repeat ((fail_if_success (with_reducible show wpAny _ _ (execs (Stmt.Assign _ _ _ :: _) _) _ _ _)); (first | (k_unfold; (try dsimp only)) | walk1 | (dsimp only; walk1)))
  k_dflt (refine' init_run (self := Str.ofString "self") (d := d') (a := x') (C := 78) (fs := [(Str.ofString "table", .dict), (Str.ofString "at", .int 0), (Str.ofString "tied", .val .none)]) (rest := new1 ++ (x', instObj 78 d') :: rest) (new := []) ?i1 ?i2 ?i3 ?i4 ?i5 ?i6 ?i7 ?i8 ?i9 ?iS ?iC ?iF ?iN ?iA ?iO ?iR ?iL ?_)
  case iF => k_asm
  case i1 => rfl
  case i2 => rfl
  case i3 => rfl
  case i4 => decide
  case i5 => k_asm
  case i6 => exact Top.nolimit (by assumption)
  case i7 => k_is
  case i8 => k_is
  case i9 => k_is
  case iS => exact (.dict (.int (.none .nil)))
  case iC => simp only [List.forall_mem_cons, List.not_mem_nil, false_implies, implies_true, and_true]; repeat (first | (refine ⟨?_, ?_⟩; focus (k_is)) | k_is)
  case iN => k_asm
  case iA => exact List.mem_append_right _ (List.mem_append_right _ (.head _))
  case iO => exact o1
  case iR => exact D1.noref
  case iL => have := D1.len; simp only [List.length_cons, List.length_nil] at this ⊢; omega
  intro h9 tk9 es9 n9 new9 F9 N9 o9 D9
  have hN1 := D1.has (by simp only [List.map_cons, List.map_nil]; decide +kernel)
  have hN2 := D9.has (by simp only [List.map_cons, List.map_nil]; decide +kernel)
  have hM := made_of l2 l1 D1 D9 o9 (Nat.le_of_ble_eq_true rfl)
  k_steps
  refine hret _ _ _ _ (by k_asm) (News.app (by k_asm)) (exI5 ⟨rfl, rfl, hM, ?_, ?_, ?_⟩)
  · obtain ⟨v, a, rfl⟩ := hN1 _ (.head _)
    exact D9.keep _ _ (by simp only [List.map_cons, List.map_nil]; decide +kernel) a
  · obtain ⟨v, a, tc, rfl⟩ := hN1 _ (.tail _ (.head _))
    exact ⟨tc, D9.keep _ _ (by simp only [List.map_cons, List.map_nil]; decide +kernel) a⟩
  · obtain ⟨v, a, rfl⟩ := hN2 _ (.tail _ (.tail _ (.head _)))
    exact a
set_option maxRecDepth 100000 in
set_option maxHeartbeats 8000000 in
theorem scalar_cls {w : World} {num : Int} {t : Tok} {v0 : Value} {rest : Led} :
    Spec w 59 [.int num t, v0] rest 6 (fun r news' => ∃ x d es n new, r = .ref x ∧ news' = (d, dictOf es n) :: (new ++ (x, instObj 59 d) :: rest) ∧ Made 59 x d es new rest ∧ getL (Str.ofString "number") es = some (some (.int num t)) ∧ getL (Str.ofString "magic") es = some (some .none)) := by
  intro dp un gd' cn cs a ccd cl outer A₀ base h₀ L m s mean mg mb Q E B F X N T hk hd hu hret
  k_dflt (refine' call_cls ?k1 ?k2 ?k3 ?k4 ?k5 ?k6 ?_; (case k1 => k_asm); (case k2 => k_asm); (case k3 => k_asm); (case k4 => k_is); (case k5 => k_is); (case k6 => k_is); k_whole; intro x' d' h' F' N' l1 l2)
  k_dflt (refine' code_def (binds := [(Str.ofString "self", .ref x'), (Str.ofString "number", .int num t), (Str.ofString "value", v0)]) ?k1 ?k2 ?k3 ?k4 ?k5 ?kA ?kF ?kK ?k6 ?k7 ?k8 ?k9 ?kB ?_ ?c2 ?c3 ?c4 ?c5; (case kA => exact rfl); (case kF => exact rfl); (case kK => assumption); (case k1 => k_asm); (case k2 => k_asm); (case k3 => k_asm); (case k4 => k_asm); (case k5 => k_asm); (case k6 => k_is); (case k7 => k_is); (case k8 => ktr_room); (case k9 => first | exact BindsTo.of_eq rfl | exact binds_K (by k_in) rfl (by k_is) rfl rfl rfl); (case c5 => decide); (case kB => exact locs rfl); (case c2 => exact rfl); (case c3 => exact rfl); (case c4 => exact rfl); k_whole; intro g' L' h' FG' F' N' B' X' T'; (try dsimp only); (try k_fold); k_extra "fA")
  repeat ((fail_if_success (with_reducible show wpAny _ _ (call (Value.ref 35) _) _ _ _)); (first | (k_unfold; (try dsimp only)) | walk1 | (dsimp only; walk1)))
  k_here
  k_dflt (refine' Spec.use3 (thing_spec (C := 59) (x := x') (d := d') ?c1 ?c2 ?c3 ?c4 ?ha ?hoff ?hr ?hl) ?k1 ?k2 ?k3 ?k4 ?k5 ?kK ?kd ?ku ?_; (case k1 => k_asm); (case k2 => k_asm); (case k3 => k_asm); (case k4 => exact News.sw (by k_asm)); (case k5 => k_asm); (case kK => first | exact rfl | assumption); (case c1 => k_is); (case c2 => k_is); (case c3 => k_is); (case c4 => simp only [List.forall_mem_cons, List.not_mem_nil, false_implies, implies_true, and_true]; repeat (first | (refine ⟨?_, ?_⟩; focus (k_is)) | k_is)); (case ha => exact .head _); (case hoff => exact List.forall_mem_cons.mpr ⟨Nat.ne_of_gt l2, fun p hp => Nat.ne_of_lt (l1 p hp)⟩); (case hr => rfl); (case hl => exact Nat.zero_le _); (case kd => ktr_room); (case ku => (have hcL9 := cLine_is; (simp only [units_under_make]); (try dsimp only [ktrTop]); omega)))
  intro es1 n1 new1 h9 tk9 F9 N9 p9
  refine' an2 p9 ?_
  clear p9
  intro o1 D1
  refine wpAny_tok ?_
  intro tk9
  repeat ((fail_if_success (with_reducible show wpAny _ _ (execs (Stmt.Assign _ _ _ :: _) _) _ _ _)); (first | (k_unfold; (try dsimp only)) | walk1 | (dsimp only; walk1)))
  k_dflt (refine' init_run (self := Str.ofString "self") (d := d') (a := x') (C := 59) (fs := [(Str.ofString "value", .val v0), (Str.ofString "magic", .val .none)]) (rest := new1 ++ (x', instObj 59 d') :: rest) (new := []) ?i1 ?i2 ?i3 ?i4 ?i5 ?i6 ?i7 ?i8 ?i9 ?iS ?iC ?iF ?iN ?iA ?iO ?iR ?iL ?_)
  case iF => k_asm
  case i1 => rfl
  case i2 => rfl
  case i3 => rfl
  case i4 => decide
  case i5 => k_asm
  case i6 => exact Top.nolimit (by assumption)
  case i7 => k_is
  case i8 => k_is
  case i9 => k_is
  case iS => exact (.var (by with_unfolding_all rfl) (by with_unfolding_all rfl) (by decide) (.none .nil))
  case iC => simp only [List.forall_mem_cons, List.not_mem_nil, false_implies, implies_true, and_true]; repeat (first | (refine ⟨?_, ?_⟩; focus (k_is)) | k_is)
  case iN => k_asm
  case iA => exact List.mem_append_right _ (List.mem_append_right _ (.head _))
  case iO => exact o1
  case iR => exact D1.noref
  case iL => have := D1.len; simp only [List.length_cons, List.length_nil] at this ⊢; omega
  intro h9 tk9 es9 n9 new9 F9 N9 o9 D9
  have hN1 := D1.has (by simp only [List.map_cons, List.map_nil]; decide +kernel)
  have hN2 := D9.has (by simp only [List.map_cons, List.map_nil]; decide +kernel)
  have hM := made_of l2 l1 D1 D9 o9 (Nat.le_of_ble_eq_true rfl)
  k_steps
  refine hret _ _ _ _ (by k_asm) (News.app (by k_asm)) (exI5 ⟨rfl, rfl, hM, ?_, ?_⟩)
  · obtain ⟨v, a, rfl⟩ := hN1 _ (.head _)
    exact D9.keep _ _ (by simp only [List.map_cons, List.map_nil]; decide +kernel) a
  · obtain ⟨v, a, rfl⟩ := hN2 _ (.tail _ (.head _))
    exact a
set_option maxRecDepth 100000 in
set_option maxHeartbeats 8000000 in
theorem new_glob_spec {w : World} {hp hpd : Addr} {l1 l2 l3 k : Int} {u1 u2 u3 tk : Tok} {lim zl : Value} {nm : Str} {tn : Tok} {rest : Led} (a5 : (hp, instObj 180 hpd) ∈ rest) (o1 : ∀ p ∈ rest, p.1 ≠ hpd) :
    Spec w 177 [.ref hp, .str nm tn] ((hpd, hpO l1 l2 l3 u1 u2 u3 lim zl k tk) :: rest) 8 (fun r news' => ∃ x d es n new tk', r = .ref x ∧ news' = (d, dictOf es n) :: (new ++ (x, instObj 97 d) :: (hpd, hpO l1 l2 l3 u1 u2 u3 lim zl (k + 1) tk') :: rest) ∧ Made 97 x d es new ((hpd, hpO l1 l2 l3 u1 u2 u3 lim zl (k + 1) tk') :: rest) ∧ getL (Str.ofString "hash") es = some (some .none)) := by
  intro dp un gd' cn cs a ccd cl outer A₀ base h₀ L m s mean mg mb Q E B F X N T hk hd hu hret
  refine wpAny_call ?_
  k_dflt (refine' code_def (binds := [(Str.ofString "self", .ref hp), (Str.ofString "name", .str nm tn)]) ?k1 ?k2 ?k3 ?k4 ?k5 ?kA ?kF ?kK ?k6 ?k7 ?k8 ?k9 ?kB ?_ ?c2 ?c3 ?c4 ?c5; (case kA => exact rfl); (case kF => exact rfl); (case kK => assumption); (case k1 => k_asm); (case k2 => k_asm); (case k3 => k_asm); (case k4 => k_asm); (case k5 => k_asm); (case k6 => k_is); (case k7 => k_is); (case k8 => ktr_room); (case k9 => first | exact BindsTo.of_eq rfl | exact binds_K (by k_in) rfl (by k_is) rfl rfl rfl); (case c5 => decide); (case kB => exact locs rfl); (case c2 => exact rfl); (case c3 => exact rfl); (case c4 => exact rfl); k_whole; intro g' L' h' FG' F' N' B' X' T'; (try dsimp only); (try k_fold); k_extra "fA")
  repeat ((fail_if_success (with_reducible show wpAny _ _ (call (Value.ref 142) _) _ _ _)); (first | (k_unfold; (try dsimp only)) | walk1 | (dsimp only; walk1)))
  k_here
  k_dflt (refine' Spec.use2e (number_spec a5 o1) ?k1 ?k2 ?k3 ?k4 ?k5 ?kK ?kd ?ku ?_; (case k1 => k_asm); (case k2 => k_asm); (case k3 => k_asm); (case k4 => k_asm); (case k5 => k_asm); (case kK => first | exact rfl | assumption); (case kd => ktr_room); (case ku => ktr_units))
  intro t9 tk9' h9 tk9 F9 N9
  repeat ((fail_if_success (with_reducible show wpAny _ _ (call (Value.ref 97) _) _ _ _)); (first | (k_unfold; (try dsimp only)) | walk1 | (dsimp only; walk1)))
  k_here
  k_dflt (refine' Spec.use5 (glob_cls) ?k1 ?k2 ?k3 ?k4 ?k5 ?kK ?kd ?ku ?_; (case k1 => k_asm); (case k2 => k_asm); (case k3 => k_asm); (case k4 => k_asm); (case k5 => k_asm); (case kK => first | exact rfl | assumption); (case kd => ktr_room); (case ku => ktr_units))
  intro x d es n new h9 tk9 F9 N9 p9
  refine' an2 p9 ?_
  clear p9
  intro hM hh
  k_steps
  exact hret _ _ _ _ (by k_asm) (by k_asm) (exI6 ⟨rfl, rfl, hM, hh⟩)
set_option maxRecDepth 100000 in
set_option maxHeartbeats 8000000 in
theorem new_hash_spec {w : World} {hp hpd : Addr} {l1 l2 l3 k : Int} {u1 u2 u3 tk : Tok} {lim zl : Value} {rest : Led} (a5 : (hp, instObj 180 hpd) ∈ rest) (o1 : ∀ p ∈ rest, p.1 ≠ hpd) :
    Spec w 163 [.ref hp] ((hpd, hpO l1 l2 l3 u1 u2 u3 lim zl k tk) :: rest) 8 (fun r news' => ∃ x d es n new tk' t, r = .ref x ∧ news' = (d, dictOf es n) :: (new ++ (x, instObj 78 d) :: (hpd, hpO l1 l2 l3 u1 u2 u3 lim zl (k + 1) tk') :: rest) ∧ Made 78 x d es new ((hpd, hpO l1 l2 l3 u1 u2 u3 lim zl (k + 1) tk') :: rest) ∧
      getL (Str.ofString "number") es = some (some (.int (k + 1) t)) ∧ (∃ tc, getL (Str.ofString "count") es = some (some (.int 0 tc))) ∧ getL (Str.ofString "tied") es = some (some .none)) := by
  intro dp un gd' cn cs a ccd cl outer A₀ base h₀ L m s mean mg mb Q E B F X N T hk hd hu hret
  refine wpAny_call ?_
  k_dflt (refine' code_def (binds := [(Str.ofString "self", .ref hp)]) ?k1 ?k2 ?k3 ?k4 ?k5 ?kA ?kF ?kK ?k6 ?k7 ?k8 ?k9 ?kB ?_ ?c2 ?c3 ?c4 ?c5; (case kA => exact rfl); (case kF => exact rfl); (case kK => assumption); (case k1 => k_asm); (case k2 => k_asm); (case k3 => k_asm); (case k4 => k_asm); (case k5 => k_asm); (case k6 => k_is); (case k7 => k_is); (case k8 => ktr_room); (case k9 => first | exact BindsTo.of_eq rfl | exact binds_K (by k_in) rfl (by k_is) rfl rfl rfl); (case c5 => decide); (case kB => exact locs rfl); (case c2 => exact rfl); (case c3 => exact rfl); (case c4 => exact rfl); k_whole; intro g' L' h' FG' F' N' B' X' T'; (try dsimp only); (try k_fold); k_extra "fA")
  repeat ((fail_if_success (with_reducible show wpAny _ _ (call (Value.ref 142) _) _ _ _)); (first | (k_unfold; (try dsimp only)) | walk1 | (dsimp only; walk1)))
  k_here
  k_dflt (refine' Spec.use2e (number_spec a5 o1) ?k1 ?k2 ?k3 ?k4 ?k5 ?kK ?kd ?ku ?_; (case k1 => k_asm); (case k2 => k_asm); (case k3 => k_asm); (case k4 => k_asm); (case k5 => k_asm); (case kK => first | exact rfl | assumption); (case kd => ktr_room); (case ku => ktr_units))
  intro t9 tk9' h9 tk9 F9 N9
  repeat ((fail_if_success (with_reducible show wpAny _ _ (call (Value.ref 78) _) _ _ _)); (first | (k_unfold; (try dsimp only)) | walk1 | (dsimp only; walk1)))
  k_here
  k_dflt (refine' Spec.use5 (hash_cls) ?k1 ?k2 ?k3 ?k4 ?k5 ?kK ?kd ?ku ?_; (case k1 => k_asm); (case k2 => k_asm); (case k3 => k_asm); (case k4 => k_asm); (case k5 => k_asm); (case kK => first | exact rfl | assumption); (case kd => ktr_room); (case ku => ktr_units))
  intro x d es n new h9 tk9 F9 N9 p9
  refine' an2 p9 ?_
  clear p9
  intro hM hh
  k_steps
  exact hret _ _ _ _ (by k_asm) (by k_asm) (exI7 ⟨rfl, rfl, hM, hh⟩)
theorem Made.offs' {C x d : Addr} {es : List DictEntry} {new R R' : Led} (M : Made C x d es new R) (hR : ∀ p ∈ R', p.1 ≠ d) : ∀ p ∈ new ++ (x, instObj C d) :: R', p.1 ≠ d :=
  forall_app (fun q hq => Nat.ne_of_gt (M.up q hq).1) (List.forall_mem_cons.mpr ⟨Nat.ne_of_gt M.lt, hR⟩)
theorem Made.offs {C x d a : Addr} {es : List DictEntry} {new R R' : Led} {oa od : Obj} (M : Made C x d es new R) (ha : (a, oa) ∈ R) (hR : ∀ p ∈ R', p.1 ≠ a) : ∀ p ∈ (d, od) :: (new ++ (x, instObj C d) :: R'), p.1 ≠ a := by
  have h := M.low _ ha
  refine List.forall_mem_cons.mpr ⟨Nat.ne_of_gt h, forall_app (fun q hq => Nat.ne_of_gt ((M.up q hq).2 _ (.tail _ ha))) (List.forall_mem_cons.mpr ⟨Nat.ne_of_gt (Nat.lt_trans h M.lt), hR⟩)⟩
theorem News.pl1 {h₀ h : Heap} {L : Addr} {a b c d : Addr × Obj} {l r : Led} (N : News h₀ L h (a :: (l ++ c :: b :: d :: r))) : News h₀ L h (d :: a :: (l ++ c :: b :: r)) := fun p hp => N p (by
  rcases List.mem_cons.mp hp with rfl | hp
  · exact .tail _ (List.mem_append_right _ (.tail _ (.tail _ (.head _))))
  · rcases List.mem_cons.mp hp with rfl | hp
    · exact .head _
    · refine .tail _ ((List.mem_append.mp hp).elim (fun h => List.mem_append_left _ h) fun h => List.mem_append_right _ ?_)
      rcases List.mem_cons.mp h with rfl | h
      · exact .head _
      · rcases List.mem_cons.mp h with rfl | h
        · exact .tail _ (.head _)
        · exact .tail _ (.tail _ (.tail _ h)))
set_option maxRecDepth 100000 in
set_option maxHeartbeats 8000000 in
theorem glob_of_first {w : World} {hp hpd st std gd : Addr} {l1 l2 l3 k : Int} {u1 u2 u3 tk : Tok} {lim zl : Value} {h1 h2 h3 : Int} {t1 t2 t3 tks tn : Tok} {o : Obj} {rest : Led} (a3 : (st, instObj 729 std) ∈ rest) (a4 : (std, stO h1 h2 h3 t1 t2 t3 hp gd 0 tks) ∈ rest) (a5 : (hp, instObj 180 hpd) ∈ rest)
    (hd0 : o.IsDictOf (PySem.strKind PG w) []) (lo : (gd == sysModules) = false) (o1 : ∀ p ∈ rest, p.1 ≠ hpd) (o2 : ∀ p ∈ rest, p.1 ≠ gd) (o3 : @Ne Nat hpd gd) :
    Spec w 691 [.ref st, .str (Str.ofString "main::+") tn] ((hpd, hpO l1 l2 l3 u1 u2 u3 lim zl k tk) :: (gd, o) :: rest) 10 (fun r news' => ∃ x d es n new tk' o', r = .ref x ∧ news' = (gd, o') :: (d, dictOf es n) :: (new ++ (x, instObj 97 d) :: (hpd, hpO l1 l2 l3 u1 u2 u3 lim zl (k + 1) tk') :: rest) ∧
      Made 97 x d es new ((hpd, hpO l1 l2 l3 u1 u2 u3 lim zl (k + 1) tk') :: (gd, o) :: rest) ∧ getL (Str.ofString "hash") es = some (some .none) ∧ o'.IsDictOf (PySem.strKind PG w) (stored [] (Str.ofString "main::+") (.ref x))) := by
  intro dp un gd' cn cs a ccd cl outer A₀ base h₀ L m s mean mg mb Q E B F X N T hk hd hu hret
  refine wpAny_call ?_
  k_dflt (refine' code_def (binds := [(Str.ofString "self", .ref st), (Str.ofString "name", .str (Str.ofString "main::+") tn)]) ?k1 ?k2 ?k3 ?k4 ?k5 ?kA ?kF ?kK ?k6 ?k7 ?k8 ?k9 ?kB ?_ ?c2 ?c3 ?c4 ?c5; (case kA => exact rfl); (case kF => exact rfl); (case kK => assumption); (case k1 => k_asm); (case k2 => k_asm); (case k3 => k_asm); (case k4 => k_asm); (case k5 => k_asm); (case k6 => k_is); (case k7 => k_is); (case k8 => ktr_room); (case k9 => first | exact BindsTo.of_eq rfl | exact binds_K (by k_in) rfl (by k_is) rfl rfl rfl); (case c5 => decide); (case kB => exact locs rfl); (case c2 => exact rfl); (case c3 => exact rfl); (case c4 => exact rfl); k_whole; intro g' L' h' FG' F' N' B' X' T'; (try dsimp only); (try k_fold); k_extra "fA")
  repeat ((fail_if_success (with_reducible show wpAny _ _ (call (Value.ref 177) _) _ _ _)); (first | (k_unfold; (try dsimp only)) | walk1 | (dsimp only; walk1)))
  k_here
  k_dflt (refine' Spec.use6 (new_glob_spec ?a5 ?o1) ?k1 ?k2 ?k3 ?k4 ?k5 ?kK ?kd ?ku ?_; (case k1 => k_asm); (case k2 => k_asm); (case k3 => k_asm); (case k4 => k_asm); (case k5 => k_asm); (case kK => first | exact rfl | assumption); (case a5 => exact .tail _ a5); (case o1 => exact List.forall_mem_cons.mpr ⟨Ne.symm o3, o1⟩); (case kd => ktr_room); (case ku => ktr_units))
  intro x d es n new tk9' h9 tk9 F9 N9 p9
  refine' an2 p9 ?_
  clear p9
  intro hM hh
  repeat ((fail_if_success (with_reducible show wpAny _ _ (setItem _ _ _) _ _ _)); (first | (k_unfold; (try dsimp only)) | walk1 | (dsimp only; walk1)))
  k_here
  k_dflt (refine' kda_set (knd := PySem.strKind _ _) ?F (News.pl1 ?N) (UpdF.head ?off) hd0 (strKind_is _ _ _ _) ?z ?_; (case F => k_asm); (case N => k_asm); (case off => exact hM.offs (.tail _ (.head _)) (List.forall_mem_cons.mpr ⟨o3, o2⟩)); (case z => exact Nat.le_of_ble_eq_true rfl))
  intro h9 o9 F9 N9 hd9
  k_steps
  exact hret _ _ _ _ (by k_asm) (by k_asm) (exI7 ⟨rfl, rfl, hM, hh, hd9⟩)
set_option maxRecDepth 100000 in
set_option maxHeartbeats 8000000 in
theorem glob_of_other {w : World} {hp hpd st std gd gl : Addr} {l1 l2 l3 k : Int} {u1 u2 u3 tk : Tok} {lim zl : Value} {h1 h2 h3 : Int} {t1 t2 t3 tks tn : Tok} {o : Obj} {rest : Led} (a3 : (st, instObj 729 std) ∈ rest) (a4 : (std, stO h1 h2 h3 t1 t2 t3 hp gd 0 tks) ∈ rest) (a5 : (hp, instObj 180 hpd) ∈ rest)
    (hd0 : o.IsDictOf (PySem.strKind PG w) [(Str.ofString "main::+", .ref gl)]) (lo : (gd == sysModules) = false) (o1 : ∀ p ∈ rest, p.1 ≠ hpd) (o2 : ∀ p ∈ rest, p.1 ≠ gd) (o3 : @Ne Nat hpd gd) :
    Spec w 691 [.ref st, .str (Str.ofString "main::h") tn] ((hpd, hpO l1 l2 l3 u1 u2 u3 lim zl k tk) :: (gd, o) :: rest) 10 (fun r news' => ∃ x d es n new tk' o', r = .ref x ∧ news' = (gd, o') :: (d, dictOf es n) :: (new ++ (x, instObj 97 d) :: (hpd, hpO l1 l2 l3 u1 u2 u3 lim zl (k + 1) tk') :: rest) ∧
      Made 97 x d es new ((hpd, hpO l1 l2 l3 u1 u2 u3 lim zl (k + 1) tk') :: (gd, o) :: rest) ∧ getL (Str.ofString "hash") es = some (some .none) ∧ o'.IsDictOf (PySem.strKind PG w) (stored [(Str.ofString "main::+", .ref gl)] (Str.ofString "main::h") (.ref x))) := by
  intro dp un gd' cn cs a ccd cl outer A₀ base h₀ L m s mean mg mb Q E B F X N T hk hd hu hret
  refine wpAny_call ?_
  k_dflt (refine' code_def (binds := [(Str.ofString "self", .ref st), (Str.ofString "name", .str (Str.ofString "main::h") tn)]) ?k1 ?k2 ?k3 ?k4 ?k5 ?kA ?kF ?kK ?k6 ?k7 ?k8 ?k9 ?kB ?_ ?c2 ?c3 ?c4 ?c5; (case kA => exact rfl); (case kF => exact rfl); (case kK => assumption); (case k1 => k_asm); (case k2 => k_asm); (case k3 => k_asm); (case k4 => k_asm); (case k5 => k_asm); (case k6 => k_is); (case k7 => k_is); (case k8 => ktr_room); (case k9 => first | exact BindsTo.of_eq rfl | exact binds_K (by k_in) rfl (by k_is) rfl rfl rfl); (case c5 => decide); (case kB => exact locs rfl); (case c2 => exact rfl); (case c3 => exact rfl); (case c4 => exact rfl); k_whole; intro g' L' h' FG' F' N' B' X' T'; (try dsimp only); (try k_fold); k_extra "fA")
  repeat ((fail_if_success (with_reducible show wpAny _ _ (call (Value.ref 177) _) _ _ _)); (first | (k_unfold; (try dsimp only)) | walk1 | (dsimp only; walk1)))
  k_here
  k_dflt (refine' Spec.use6 (new_glob_spec ?a5 ?o1) ?k1 ?k2 ?k3 ?k4 ?k5 ?kK ?kd ?ku ?_; (case k1 => k_asm); (case k2 => k_asm); (case k3 => k_asm); (case k4 => k_asm); (case k5 => k_asm); (case kK => first | exact rfl | assumption); (case a5 => exact .tail _ a5); (case o1 => exact List.forall_mem_cons.mpr ⟨Ne.symm o3, o1⟩); (case kd => ktr_room); (case ku => ktr_units))
  intro x d es n new tk9' h9 tk9 F9 N9 p9
  refine' an2 p9 ?_
  clear p9
  intro hM hh
  repeat ((fail_if_success (with_reducible show wpAny _ _ (setItem _ _ _) _ _ _)); (first | (k_unfold; (try dsimp only)) | walk1 | (dsimp only; walk1)))
  k_here
  k_dflt (refine' kda_set (knd := PySem.strKind _ _) ?F (News.pl1 ?N) (UpdF.head ?off) hd0 (strKind_is _ _ _ _) ?z ?_; (case F => k_asm); (case N => k_asm); (case off => exact hM.offs (.tail _ (.head _)) (List.forall_mem_cons.mpr ⟨o3, o2⟩)); (case z => exact Nat.le_of_ble_eq_true rfl))
  intro h9 o9 F9 N9 hd9
  k_steps
  exact hret _ _ _ _ (by k_asm) (by k_asm) (exI7 ⟨rfl, rfl, hM, hh, hd9⟩)
/-- a store into an instance's dict that is not written out -/
structure Put (x : Str) (v : Value) (es es' : List DictEntry) : Prop where
  noref : NoRef es'
  len : es'.length ≤ es.length + 1
  has : getL x es' = some (some v)
  keep : ∀ k r, x ≠ k → getL k es = some r → getL k es' = some r
theorem set_opq {w : World} {A : Around} {E : Value → Shared → Prop} {h₀ : Heap} {L a d C : Addr} {m : Str → Option Value} {x : Str} {v : Value} {es : List DictEntry} {n : Nat} {news : Led} {s : Shared} {Q : Unit → Shared → Prop} (hr : NoRef es) (hl : es.length ≤ 900)
    (F : Fr h₀ L s.heap m) (X₀ : (Mine.k.heap_1 w.params).In h₀) (N : News h₀ L s.heap ((d, dictOf es n) :: news)) (ha : (a, instObj C d) ∈ news)
    (c1 : findIn (Mine.k.heap_1 w.params) (.ref C) "__setattr__" = some (some (.builtin "object.__setattr__"))) (c2 : plainOver (Mine.k.heap_1 w.params) C = true) (c3 : hasDictIn (Mine.k.heap_1 w.params) C = true) (c4 : takerIn (Mine.k.heap_1 w.params) C x = some none) (hoff : ∀ p ∈ news, p.1 ≠ d)
    (h : ∀ h' es' n' tk, Fr h₀ L h' m → News h₀ L h' ((d, dictOf es' n') :: news) → Put x v es es' → Q () { s with heap := h', toks := tk }) : wpAny (model PG w) A (setAttr (.ref a) x v) Q E s :=
  set_dict (K := Mine.k.heap_1 w.params) F X₀ N (InstAt.of_news N (.tail _ ha) (.head _)) rfl c1 c2 c4 c3 (getL_some hr) rfl (Upd.head hoff) (Nat.le_trans putL_le (by omega)) fun h' F' N' => h h' _ _ _ F' N' ⟨hr.put, putL_le, getL_putL_same (by simp [Value.isStr]), fun k r hne hg => getL_putL_keep hr hne hg⟩
theorem News.ho1 {h₀ h : Heap} {L : Addr} {a b c d : Addr × Obj} {l r : Led} (N : News h₀ L h (a :: b :: (l ++ c :: d :: r))) : News h₀ L h (d :: a :: b :: (l ++ c :: r)) := fun p hp => N p (by
  rcases List.mem_cons.mp hp with rfl | hp
  · exact .tail _ (.tail _ (List.mem_append_right _ (.tail _ (.head _))))
  · rcases List.mem_cons.mp hp with rfl | hp
    · exact .head _
    · rcases List.mem_cons.mp hp with rfl | hp
      · exact .tail _ (.head _)
      · refine .tail _ (.tail _ ((List.mem_append.mp hp).elim (fun h => List.mem_append_left _ h) fun h => List.mem_append_right _ ?_))
        rcases List.mem_cons.mp h with rfl | h
        · exact .head _
        · exact .tail _ (.tail _ h))
theorem News.ho2 {h₀ h : Heap} {L : Addr} {a b c d e f : Addr × Obj} {l l2 r : Led} (N : News h₀ L h (a :: (l2 ++ b :: c :: d :: e :: (l ++ f :: r)))) : News h₀ L h (e :: a :: c :: d :: (l2 ++ (b :: (l ++ f :: r)))) := fun p hp => N p (by
  rcases List.mem_cons.mp hp with rfl | hp
  · exact .tail _ (List.mem_append_right _ (.tail _ (.tail _ (.tail _ (.head _)))))
  · rcases List.mem_cons.mp hp with rfl | hp
    · exact .head _
    · rcases List.mem_cons.mp hp with rfl | hp
      · exact .tail _ (List.mem_append_right _ (.tail _ (.head _)))
      · rcases List.mem_cons.mp hp with rfl | hp
        · exact .tail _ (List.mem_append_right _ (.tail _ (.tail _ (.head _))))
        · refine .tail _ ((List.mem_append.mp hp).elim (fun h => List.mem_append_left _ h) fun h => List.mem_append_right _ ?_)
          rcases List.mem_cons.mp h with rfl | h
          · exact .head _
          · exact .tail _ (.tail _ (.tail _ (.tail _ h))))
theorem News.ho3 {h₀ h : Heap} {L : Addr} {a b : Addr × Obj} {l : Led} (N : News h₀ L h (a :: b :: l)) : News h₀ L h (b :: a :: l) := News.sw N
/-- two things made one behind the other lie apart -/
structure Two (x d tb d2 hpd gd : Addr) (new new2 rest : Led) : Prop where
  e1 : hpd < d
  e2 : gd < d
  e3 : ∀ p ∈ rest, p.1 < d
  f1 : d < x
  f2 : ∀ q ∈ new, d < q.1
  f3 : d < d2
  f4 : d2 < tb
  f5 : ∀ q ∈ new2, d2 < q.1
  f6 : ∀ q ∈ new, q.1 < d2
  f7 : x < d2
theorem two_of {x d tb d2 hpd gd : Addr} {es es2 : List DictEntry} {new new2 rest : Led} {o1 o2 o3 oh og : Obj} (M : Made 97 x d es new ((hpd, o1) :: (gd, o2) :: rest)) (M2 : Made 78 tb d2 es2 new2 ((hpd, oh) :: (gd, og) :: (d, o3) :: (new ++ (x, instObj 97 d) :: rest))) : Two x d tb d2 hpd gd new new2 rest where
  e1 := M.low _ (.head _)
  e2 := M.low _ (.tail _ (.head _))
  e3 := fun p hp => M.low p (.tail _ (.tail _ hp))
  f1 := M.lt
  f2 := fun q hq => (M.up q hq).1
  f3 := M2.low _ (.tail _ (.tail _ (.head _)))
  f4 := M2.lt
  f5 := fun q hq => (M2.up q hq).1
  f6 := fun q hq => M2.low q (.tail _ (.tail _ (.tail _ (List.mem_append_left _ hq))))
  f7 := M2.low (x, instObj 97 d) (.tail _ (.tail _ (.tail _ (List.mem_append_right _ (.head _)))))
theorem Two.off1 {x d tb d2 hpd gd : Addr} {new new2 rest : Led} {a b c e f : Obj} (T : Two x d tb d2 hpd gd new new2 rest) : ∀ p ∈ (d2, a) :: (hpd, b) :: (gd, c) :: (new2 ++ ((tb, e) :: (new ++ (x, f) :: rest))), p.1 ≠ d :=
  List.forall_mem_cons.mpr ⟨Nat.ne_of_gt T.f3, List.forall_mem_cons.mpr ⟨Nat.ne_of_lt T.e1, List.forall_mem_cons.mpr ⟨Nat.ne_of_lt T.e2, forall_app (fun q hq => Nat.ne_of_gt (Nat.lt_trans T.f3 (T.f5 q hq))) (List.forall_mem_cons.mpr ⟨Nat.ne_of_gt (Nat.lt_trans T.f3 T.f4), forall_app (fun q hq => Nat.ne_of_gt (T.f2 q hq)) (List.forall_mem_cons.mpr ⟨Nat.ne_of_gt T.f1, fun p hp => Nat.ne_of_lt (T.e3 p hp)⟩)⟩)⟩⟩⟩
theorem Two.off2 {x d tb d2 hpd gd : Addr} {new new2 rest : Led} {a b c e f : Obj} (T : Two x d tb d2 hpd gd new new2 rest) : ∀ p ∈ (d, a) :: (hpd, b) :: (gd, c) :: (new2 ++ ((tb, e) :: (new ++ (x, f) :: rest))), p.1 ≠ d2 :=
  List.forall_mem_cons.mpr ⟨Nat.ne_of_lt T.f3, List.forall_mem_cons.mpr ⟨Nat.ne_of_lt (Nat.lt_trans T.e1 T.f3), List.forall_mem_cons.mpr ⟨Nat.ne_of_lt (Nat.lt_trans T.e2 T.f3), forall_app (fun q hq => Nat.ne_of_gt (T.f5 q hq)) (List.forall_mem_cons.mpr ⟨Nat.ne_of_gt T.f4, forall_app (fun q hq => Nat.ne_of_lt (T.f6 q hq)) (List.forall_mem_cons.mpr ⟨Nat.ne_of_lt T.f7, fun p hp => Nat.ne_of_lt (Nat.lt_trans (T.e3 p hp) T.f3)⟩)⟩)⟩⟩⟩
theorem News.bring2 {h₀ h : Heap} {L : Addr} {a b : Addr × Obj} {l : Led} (N : News h₀ L h (a :: b :: l)) : News h₀ L h (b :: a :: l) := News.sw N
set_option maxRecDepth 100000 in
set_option maxHeartbeats 8000000 in
theorem hash_of_first {w : World} {hp hpd st std gd : Addr} {l1 l2 l3 k : Int} {u1 u2 u3 tk : Tok} {lim zl : Value} {h1 h2 h3 : Int} {t1 t2 t3 tks tn : Tok} {o : Obj} {rest : Led} (a3 : (st, instObj 729 std) ∈ rest) (a4 : (std, stO h1 h2 h3 t1 t2 t3 hp gd 0 tks) ∈ rest) (a5 : (hp, instObj 180 hpd) ∈ rest)
    (hd0 : o.IsDictOf (PySem.strKind PG w) []) (lo : (gd == sysModules) = false) (o1 : ∀ p ∈ rest, p.1 ≠ hpd) (o2 : ∀ p ∈ rest, p.1 ≠ gd) (o3 : @Ne Nat hpd gd) :
    Spec w 712 [.ref st, .str (Str.ofString "main::+") tn] ((hpd, hpO l1 l2 l3 u1 u2 u3 lim zl k tk) :: (gd, o) :: rest) 12 (fun r news' => ∃ x d es n new tb d2 es2 n2 new2 k' tk' o' num t, r = .ref tb ∧
      news' = (d2, dictOf es2 n2) :: (d, dictOf es n) :: (hpd, hpO l1 l2 l3 u1 u2 u3 lim zl k' tk') :: (gd, o') :: (new2 ++ ((tb, instObj 78 d2) :: (new ++ (x, instObj 97 d) :: rest))) ∧
      Two x d tb d2 hpd gd new new2 rest ∧ getL (Str.ofString "hash") es = some (some (.ref tb)) ∧ getL (Str.ofString "number") es2 = some (some (.int num t)) ∧ getL (Str.ofString "tied") es2 = some (some .none) ∧ NoRef es2 ∧ es2.length ≤ 40 ∧ o'.IsDictOf (PySem.strKind PG w) (stored [] (Str.ofString "main::+") (.ref x))) := by
  intro dp un gd' cn cs a ccd cl outer A₀ base h₀ L m s mean mg mb Q E B F X N T hk hd hu hret
  refine wpAny_call ?_
  k_dflt (refine' code_def (binds := [(Str.ofString "self", .ref st), (Str.ofString "name", .str (Str.ofString "main::+") tn)]) ?k1 ?k2 ?k3 ?k4 ?k5 ?kA ?kF ?kK ?k6 ?k7 ?k8 ?k9 ?kB ?_ ?c2 ?c3 ?c4 ?c5; (case kA => exact rfl); (case kF => exact rfl); (case kK => assumption); (case k1 => k_asm); (case k2 => k_asm); (case k3 => k_asm); (case k4 => k_asm); (case k5 => k_asm); (case k6 => k_is); (case k7 => k_is); (case k8 => ktr_room); (case k9 => first | exact BindsTo.of_eq rfl | exact binds_K (by k_in) rfl (by k_is) rfl rfl rfl); (case c5 => decide); (case kB => exact locs rfl); (case c2 => exact rfl); (case c3 => exact rfl); (case c4 => exact rfl); k_whole; intro g' L' h' FG' F' N' B' X' T'; (try dsimp only); (try k_fold); k_extra "fA")
  repeat ((fail_if_success (with_reducible show wpAny _ _ (call (Value.ref 691) _) _ _ _)); (first | (k_unfold; (try dsimp only)) | walk1 | (dsimp only; walk1)))
  k_here
  k_dflt (refine' Spec.use7 (glob_of_first a3 a4 a5 hd0 lo o1 o2 o3) ?k1 ?k2 ?k3 ?k4 ?k5 ?kK ?kd ?ku ?_; (case k1 => k_asm); (case k2 => k_asm); (case k3 => k_asm); (case k4 => k_asm); (case k5 => k_asm); (case kK => first | exact rfl | assumption); (case kd => ktr_room); (case ku => ktr_units))
  intro x d es n new tk9' o9 h9 tk9 F9 N9 p9
  refine' an3 p9 ?_
  clear p9
  intro hM hh hd9
  repeat ((fail_if_success (with_reducible show wpAny _ _ (call (Value.ref 163) _) _ _ _)); (first | (k_unfold; (try dsimp only)) | walk1 | (dsimp only; walk1)))
  k_here
  k_dflt (refine' Spec.use7 (new_hash_spec ?a5 ?o1) ?k1 ?k2 ?k3 ?k4 ?k5 ?kK ?kd ?ku ?_; (case k1 => k_asm); (case k2 => k_asm); (case k3 => k_asm); (case k4 => exact News.ho1 (by k_asm)); (case k5 => k_asm); (case kK => first | exact rfl | assumption); (case a5 => exact .tail _ (.tail _ (List.mem_append_right _ (.tail _ a5)))); (case o1 => exact List.forall_mem_cons.mpr ⟨Ne.symm o3, hM.offs (.head _) o1⟩); (case kd => ktr_room); (case ku => ktr_units))
  intro tb d2 es2 n2 new2 tk9' t9 h9 tk9 F9 N9 p9
  refine' an4 p9 ?_
  clear p9
  intro hM2 hnum z91 htied
  obtain ⟨tc, hcnt⟩ := z91
  have hT := two_of hM hM2
  repeat ((fail_if_success (with_reducible show wpAny _ _ (setAttr _ _ _) _ _ _)); (first | (k_unfold; (try dsimp only)) | walk1 | (dsimp only; walk1)))
  k_here
  k_dflt (refine' set_opq ?hr ?hl ?F ?X ?N ?ha ?c1 ?c2 ?c3 ?c4 ?off ?_; (case hr => exact hM.noref); (case hl => exact Nat.le_trans hM.len (by decide)); (case F => k_asm); (case X => k_asm); (case N => exact News.ho2 (by k_asm)); (case ha => exact .tail _ (.tail _ (.tail _ (List.mem_append_right _ (.tail _ (List.mem_append_right _ (.head _))))))); (case c1 => k_is); (case c2 => k_is); (case c3 => k_is); (case c4 => k_is); (case off => exact hT.off1))
  intro h9 es3 n3 tk9 F9 N9 P3
  have hh3 := P3.has
  repeat ((fail_if_success (with_reducible show wpAny _ _ (setAttr _ _ _) _ _ _)); (first | (k_unfold; (try dsimp only)) | walk1 | (dsimp only; walk1)))
  k_here
  k_dflt (refine' set_opq ?hr ?hl ?F ?X ?N ?ha ?c1 ?c2 ?c3 ?c4 ?off ?_; (case hr => exact hM2.noref); (case hl => exact Nat.le_trans hM2.len (by decide)); (case F => k_asm); (case X => k_asm); (case N => exact News.sw (by k_asm)); (case ha => exact .tail _ (.tail _ (.tail _ (List.mem_append_right _ (.head _))))); (case c1 => k_is); (case c2 => k_is); (case c3 => k_is); (case c4 => k_is); (case off => exact hT.off2))
  intro h9 es4 n4 tk9 F9 N9 P4
  k_steps
  exact hret _ _ _ _ (by k_asm) (by k_asm) (exI15 ⟨rfl, rfl, hT, hh3, P4.keep _ _ (by decide) hnum, P4.keep _ _ (by decide) htied, P4.noref, Nat.le_trans P4.len (Nat.succ_le_of_lt (Nat.lt_of_le_of_lt hM2.len (by decide))), hd9⟩)
set_option maxRecDepth 100000 in
set_option maxHeartbeats 8000000 in
theorem hash_of_other {w : World} {hp hpd st std gd gl : Addr} {l1 l2 l3 k : Int} {u1 u2 u3 tk : Tok} {lim zl : Value} {h1 h2 h3 : Int} {t1 t2 t3 tks tn : Tok} {o : Obj} {rest : Led} (a3 : (st, instObj 729 std) ∈ rest) (a4 : (std, stO h1 h2 h3 t1 t2 t3 hp gd 0 tks) ∈ rest) (a5 : (hp, instObj 180 hpd) ∈ rest)
    (hd0 : o.IsDictOf (PySem.strKind PG w) [(Str.ofString "main::+", .ref gl)]) (lo : (gd == sysModules) = false) (o1 : ∀ p ∈ rest, p.1 ≠ hpd) (o2 : ∀ p ∈ rest, p.1 ≠ gd) (o3 : @Ne Nat hpd gd) :
    Spec w 712 [.ref st, .str (Str.ofString "main::h") tn] ((hpd, hpO l1 l2 l3 u1 u2 u3 lim zl k tk) :: (gd, o) :: rest) 12 (fun r news' => ∃ x d es n new tb d2 es2 n2 new2 k' tk' o' num t, r = .ref tb ∧
      news' = (d2, dictOf es2 n2) :: (d, dictOf es n) :: (hpd, hpO l1 l2 l3 u1 u2 u3 lim zl k' tk') :: (gd, o') :: (new2 ++ ((tb, instObj 78 d2) :: (new ++ (x, instObj 97 d) :: rest))) ∧
      Two x d tb d2 hpd gd new new2 rest ∧ getL (Str.ofString "hash") es = some (some (.ref tb)) ∧ getL (Str.ofString "number") es2 = some (some (.int num t)) ∧ getL (Str.ofString "tied") es2 = some (some .none) ∧ NoRef es2 ∧ es2.length ≤ 40 ∧ o'.IsDictOf (PySem.strKind PG w) (stored [(Str.ofString "main::+", .ref gl)] (Str.ofString "main::h") (.ref x))) := by
  intro dp un gd' cn cs a ccd cl outer A₀ base h₀ L m s mean mg mb Q E B F X N T hk hd hu hret
  refine wpAny_call ?_
  k_dflt (refine' code_def (binds := [(Str.ofString "self", .ref st), (Str.ofString "name", .str (Str.ofString "main::h") tn)]) ?k1 ?k2 ?k3 ?k4 ?k5 ?kA ?kF ?kK ?k6 ?k7 ?k8 ?k9 ?kB ?_ ?c2 ?c3 ?c4 ?c5; (case kA => exact rfl); (case kF => exact rfl); (case kK => assumption); (case k1 => k_asm); (case k2 => k_asm); (case k3 => k_asm); (case k4 => k_asm); (case k5 => k_asm); (case k6 => k_is); (case k7 => k_is); (case k8 => ktr_room); (case k9 => first | exact BindsTo.of_eq rfl | exact binds_K (by k_in) rfl (by k_is) rfl rfl rfl); (case c5 => decide); (case kB => exact locs rfl); (case c2 => exact rfl); (case c3 => exact rfl); (case c4 => exact rfl); k_whole; intro g' L' h' FG' F' N' B' X' T'; (try dsimp only); (try k_fold); k_extra "fA")
  repeat ((fail_if_success (with_reducible show wpAny _ _ (call (Value.ref 691) _) _ _ _)); (first | (k_unfold; (try dsimp only)) | walk1 | (dsimp only; walk1)))
  k_here
  k_dflt (refine' Spec.use7 (glob_of_other a3 a4 a5 hd0 lo o1 o2 o3) ?k1 ?k2 ?k3 ?k4 ?k5 ?kK ?kd ?ku ?_; (case k1 => k_asm); (case k2 => k_asm); (case k3 => k_asm); (case k4 => k_asm); (case k5 => k_asm); (case kK => first | exact rfl | assumption); (case kd => ktr_room); (case ku => ktr_units))
  intro x d es n new tk9' o9 h9 tk9 F9 N9 p9
  refine' an3 p9 ?_
  clear p9
  intro hM hh hd9
  repeat ((fail_if_success (with_reducible show wpAny _ _ (call (Value.ref 163) _) _ _ _)); (first | (k_unfold; (try dsimp only)) | walk1 | (dsimp only; walk1)))
  k_here
  k_dflt (refine' Spec.use7 (new_hash_spec ?a5 ?o1) ?k1 ?k2 ?k3 ?k4 ?k5 ?kK ?kd ?ku ?_; (case k1 => k_asm); (case k2 => k_asm); (case k3 => k_asm); (case k4 => exact News.ho1 (by k_asm)); (case k5 => k_asm); (case kK => first | exact rfl | assumption); (case a5 => exact .tail _ (.tail _ (List.mem_append_right _ (.tail _ a5)))); (case o1 => exact List.forall_mem_cons.mpr ⟨Ne.symm o3, hM.offs (.head _) o1⟩); (case kd => ktr_room); (case ku => ktr_units))
  intro tb d2 es2 n2 new2 tk9' t9 h9 tk9 F9 N9 p9
  refine' an4 p9 ?_
  clear p9
  intro hM2 hnum z92 htied
  obtain ⟨tc, hcnt⟩ := z92
  have hT := two_of hM hM2
  repeat ((fail_if_success (with_reducible show wpAny _ _ (setAttr _ _ _) _ _ _)); (first | (k_unfold; (try dsimp only)) | walk1 | (dsimp only; walk1)))
  k_here
  k_dflt (refine' set_opq ?hr ?hl ?F ?X ?N ?ha ?c1 ?c2 ?c3 ?c4 ?off ?_; (case hr => exact hM.noref); (case hl => exact Nat.le_trans hM.len (by decide)); (case F => k_asm); (case X => k_asm); (case N => exact News.ho2 (by k_asm)); (case ha => exact .tail _ (.tail _ (.tail _ (List.mem_append_right _ (.tail _ (List.mem_append_right _ (.head _))))))); (case c1 => k_is); (case c2 => k_is); (case c3 => k_is); (case c4 => k_is); (case off => exact hT.off1))
  intro h9 es3 n3 tk9 F9 N9 P3
  have hh3 := P3.has
  repeat ((fail_if_success (with_reducible show wpAny _ _ (setAttr _ _ _) _ _ _)); (first | (k_unfold; (try dsimp only)) | walk1 | (dsimp only; walk1)))
  k_here
  k_dflt (refine' set_opq ?hr ?hl ?F ?X ?N ?ha ?c1 ?c2 ?c3 ?c4 ?off ?_; (case hr => exact hM2.noref); (case hl => exact Nat.le_trans hM2.len (by decide)); (case F => k_asm); (case X => k_asm); (case N => exact News.sw (by k_asm)); (case ha => exact .tail _ (.tail _ (.tail _ (List.mem_append_right _ (.head _))))); (case c1 => k_is); (case c2 => k_is); (case c3 => k_is); (case c4 => k_is); (case off => exact hT.off2))
  intro h9 es4 n4 tk9 F9 N9 P4
  k_steps
  exact hret _ _ _ _ (by k_asm) (by k_asm) (exI15 ⟨rfl, rfl, hT, hh3, P4.keep _ _ (by decide) hnum, P4.keep _ _ (by decide) htied, P4.noref, Nat.le_trans P4.len (Nat.succ_le_of_lt (Nat.lt_of_le_of_lt hM2.len (by decide))), hd9⟩)
/-- a table and what stands behind it -/
inductive TabRep (news : Led) (tb : Addr) (num : Int) (tied : Value) : Prop
  | mk (tbd : Addr) (es : List DictEntry) (n : Nat) (tk : Tok) (f0 : (tb, instObj 78 tbd) ∈ news) (f1 : (tbd, dictOf es n) ∈ news) (f2 : getL (Str.ofString "number") es = some (some (.int num tk))) (f3 : getL (Str.ofString "tied") es = some (some tied)) : TabRep news tb num tied
theorem TabRep.mono {news news' : Led} {tb : Addr} {num : Int} {tied : Value} (h : TabRep news tb num tied) (hs : ∀ p ∈ news, p ∈ news') : TabRep news' tb num tied := by
  obtain ⟨tbd, es, n, tk, a, b, c, d⟩ := h
  exact ⟨tbd, es, n, tk, hs _ a, hs _ b, c, d⟩
inductive GlobRep (news : Led) (gl tb : Addr) : Prop
  | mk (gld : Addr) (es : List DictEntry) (n : Nat) (f0 : (gl, instObj 97 gld) ∈ news) (f1 : (gld, dictOf es n) ∈ news) (f2 : getL (Str.ofString "hash") es = some (some (.ref tb))) : GlobRep news gl tb
theorem GlobRep.mono {news news' : Led} {gl tb : Addr} (h : GlobRep news gl tb) (hs : ∀ p ∈ news, p ∈ news') : GlobRep news' gl tb := by
  obtain ⟨gld, es, n, a, b, c⟩ := h
  exact ⟨gld, es, n, hs _ a, hs _ b, c⟩
set_option maxRecDepth 100000 in
set_option maxHeartbeats 8000000 in
theorem named_cls {w : World} {rn : Addr} {rest : Led} : Spec w 499 [.ref rn] rest 5 (fun r news' => ∃ sg sgd h1 h2 h3 t1 t2 t3, r = .ref sg ∧ news' = (sgd, sgO h1 h2 h3 t1 t2 t3 rn .none) :: (sg, instObj 499 sgd) :: rest ∧ sgd < sg ∧ ∀ p ∈ rest, p.1 < sgd) := by
  intro dp un gd' cn cs a ccd cl outer A₀ base h₀ L m s mean mg mb Q E B F X N T hk hd hu hret
  k_dflt (refine' call_cls ?k1 ?k2 ?k3 ?k4 ?k5 ?k6 ?_; (case k1 => k_asm); (case k2 => k_asm); (case k3 => k_asm); (case k4 => k_is); (case k5 => k_is); (case k6 => k_is); k_whole; intro x' d' h' F' N' l1 l2; (try k_lt l1); (try k_lt2 l2))
  k_dflt (refine' code_def (binds := [(Str.ofString "self", .ref x'), (Str.ofString "run", .ref rn)]) ?k1 ?k2 ?k3 ?k4 ?k5 ?kA ?kF ?kK ?k6 ?k7 ?k8 ?k9 ?kB ?_ ?c2 ?c3 ?c4 ?c5; (case kA => exact rfl); (case kF => exact rfl); (case kK => assumption); (case k1 => k_asm); (case k2 => k_asm); (case k3 => k_asm); (case k4 => k_asm); (case k5 => k_asm); (case k6 => k_is); (case k7 => k_is); (case k8 => ktr_room); (case k9 => first | exact BindsTo.of_eq rfl | exact binds_K (by k_in) rfl (by k_is) rfl rfl rfl); (case c5 => decide); (case kB => exact locs rfl); (case c2 => exact rfl); (case c3 => exact rfl); (case c4 => exact rfl); k_whole; intro g' L' h' FG' F' N' B' X' T'; (try dsimp only); (try k_fold); k_extra "fA")
  k_steps
  exact hret _ _ _ _ (by k_asm) (News.sw (by k_asm)) (exI8 ⟨rfl, rfl, by assumption, allLt_mem (by assumption)⟩)
/-- what lv_glob_hash makes, apart -/
noncomputable def gnew (d2 d tb x : Addr) (a b c e : Obj) (new new2 : Led) : Led := (d2, a) :: (d, b) :: (new2 ++ ((tb, c) :: (new ++ [(x, e)])))
theorem News.gl0 {h₀ h : Heap} {L : Addr} {d2 d tb x : Addr} {a b c e : Obj} {p1 p2 : Addr × Obj} {new new2 rest : Led} (N : News h₀ L h ((d2, a) :: (d, b) :: p1 :: p2 :: (new2 ++ ((tb, c) :: (new ++ (x, e) :: rest))))) : News h₀ L h (p1 :: p2 :: (gnew d2 d tb x a b c e new new2 ++ rest)) := fun p hp => N p (by
  rcases List.mem_cons.mp hp with rfl | hp
  · exact .tail _ (.tail _ (.head _))
  · rcases List.mem_cons.mp hp with rfl | hp
    · exact .tail _ (.tail _ (.tail _ (.head _)))
    · rcases List.mem_append.mp hp with hp | hp
      · rcases List.mem_cons.mp hp with rfl | hp
        · exact .head _
        · rcases List.mem_cons.mp hp with rfl | hp
          · exact .tail _ (.head _)
          · refine .tail _ (.tail _ (.tail _ (.tail _ ((List.mem_append.mp hp).elim (fun h => List.mem_append_left _ h) fun h => List.mem_append_right _ ?_))))
            rcases List.mem_cons.mp h with rfl | h
            · exact .head _
            · refine .tail _ ((List.mem_append.mp h).elim (fun h => List.mem_append_left _ h) fun h => List.mem_append_right _ ?_)
              rw [List.mem_singleton.mp h]
              exact .head _
      · exact .tail _ (.tail _ (.tail _ (.tail _ (List.mem_append_right _ (.tail _ (List.mem_append_right _ (.tail _ hp))))))))
theorem gnew_above {x d tb d2 hpd gd : Addr} {new new2 rest : Led} {a b c e : Obj} (T : Two x d tb d2 hpd gd new new2 rest) : Above d (gnew d2 d tb x a b c e new new2) :=
  List.forall_mem_cons.mpr ⟨Nat.le_of_lt T.f3, List.forall_mem_cons.mpr ⟨Nat.le_refl _, forall_app (fun q hq => Nat.le_of_lt (Nat.lt_trans T.f3 (T.f5 q hq))) (List.forall_mem_cons.mpr ⟨Nat.le_of_lt (Nat.lt_trans T.f3 T.f4), forall_app (fun q hq => Nat.le_of_lt (T.f2 q hq)) (List.forall_mem_cons.mpr ⟨Nat.le_of_lt T.f1, fun _ h => nomatch h⟩)⟩)⟩⟩
theorem gnew_tab {d2 d tb x : Addr} {es2 : List DictEntry} {n2 : Nat} {b e : Obj} {new new2 : Led} {num : Int} {t : Tok} {tied : Value} (h1 : getL (Str.ofString "number") es2 = some (some (.int num t))) (h2 : getL (Str.ofString "tied") es2 = some (some tied)) : TabRep (gnew d2 d tb x (dictOf es2 n2) b (instObj 78 d2) e new new2) tb num tied :=
  ⟨d2, es2, n2, t, .tail _ (.tail _ (List.mem_append_right _ (.head _))), .head _, h1, h2⟩
theorem gnew_glob {d2 d tb x : Addr} {es : List DictEntry} {n : Nat} {a c : Obj} {new new2 : Led} (h : getL (Str.ofString "hash") es = some (some (.ref tb))) : GlobRep (gnew d2 d tb x a (dictOf es n) c (instObj 97 d) new new2) x tb :=
  ⟨d, es, n, .tail _ (.tail _ (List.mem_append_right _ (.tail _ (List.mem_append_right _ (.head _))))), .tail _ (.head _), h⟩
theorem News.gl1 {h₀ h : Heap} {L : Addr} {a b c d p1 p2 : Addr × Obj} {l : Led} (N : News h₀ L h (a :: b :: c :: d :: p1 :: p2 :: l)) : News h₀ L h (b :: c :: a :: d :: p1 :: p2 :: l) := fun p hp => N p (by
  rcases List.mem_cons.mp hp with rfl | hp
  · exact .tail _ (.head _)
  · rcases List.mem_cons.mp hp with rfl | hp
    · exact .tail _ (.tail _ (.head _))
    · rcases List.mem_cons.mp hp with rfl | hp
      · exact .head _
      · exact .tail _ (.tail _ (.tail _ hp)))
theorem News.gl2 {h₀ h : Heap} {L : Addr} {s g p1 p2 : Addr × Obj} {l r : Led} (N : News h₀ L h (s :: g :: (p1 :: p2 :: (l ++ r)))) : News h₀ L h (s :: p1 :: p2 :: ((g :: l) ++ r)) := fun p hp => N p (by
  rcases List.mem_cons.mp hp with rfl | hp
  · exact .head _
  · rcases List.mem_cons.mp hp with rfl | hp
    · exact .tail _ (.tail _ (.head _))
    · rcases List.mem_cons.mp hp with rfl | hp
      · exact .tail _ (.tail _ (.tail _ (.head _)))
      · rcases List.mem_cons.mp hp with rfl | hp
        · exact .tail _ (.head _)
        · exact .tail _ (.tail _ (.tail _ (.tail _ hp))))
theorem News.dig2 {h₀ h : Heap} {L : Addr} {a b : Addr × Obj} {l l' : Led} (f : News h₀ L h l → News h₀ L h l') (N : News h₀ L h (a :: b :: l)) : News h₀ L h (a :: b :: l') := fun p hp => by
  rcases List.mem_cons.mp hp with rfl | hp
  · exact N _ (.head _)
  · rcases List.mem_cons.mp hp with rfl | hp
    · exact N _ (.tail _ (.head _))
    · exact f (fun q hq => N q (.tail _ (.tail _ hq))) p hp
set_option maxRecDepth 100000 in
set_option maxHeartbeats 8000000 in
theorem glob_first2 {w : World} {rn rnd hp hpd ct st std sv pd gd nd : Addr} {es : List DictEntry} {rnn : Nat} {mv lim zl : Value} {h1 h2 h3 l1 l2 l3 k : Int} {t1 t2 t3 u1 u2 u3 tk tks ta tb : Tok} {o : Obj} {rest : Led} (hR : RunEs es hp ct st sv pd mv) (a1 : (rn, instObj 623 rnd) ∈ rest) (a2 : (rnd, dictOf es rnn) ∈ rest) (a3 : (st, instObj 729 std) ∈ rest) (a4 : (std, stO h1 h2 h3 t1 t2 t3 hp gd 0 tks) ∈ rest) (a5 : (hp, instObj 180 hpd) ∈ rest)
    (a6 : (nd, tupO [.str (Str.ofString "globh") ta, .str (Str.ofString "main::+") tb]) ∈ rest) (hd0 : o.IsDictOf (PySem.strKind PG w) []) (lo : (gd == sysModules) = false) (o1 : ∀ p ∈ rest, p.1 ≠ hpd) (o2 : ∀ p ∈ rest, p.1 ≠ gd) (o3 : @Ne Nat hpd gd) :
    Spec w 510 [.ref rn, .ref nd] ((hpd, hpO l1 l2 l3 u1 u2 u3 lim zl k tk) :: (gd, o) :: rest) 24 (fun r news' => ∃ tb sg sgd gl o' k' tk' h1 h2 h3 t1 t2 t3 num new, r = .ref tb ∧
      news' = (sgd, sgO h1 h2 h3 t1 t2 t3 rn .none) :: (hpd, hpO l1 l2 l3 u1 u2 u3 lim zl k' tk') :: (gd, o') :: (new ++ rest) ∧ (sg, instObj 499 sgd) ∈ new ∧ TabRep new tb num (.ref sg) ∧ GlobRep new gl tb ∧ o'.IsDictOf (PySem.strKind PG w) [(Str.ofString "main::+", .ref gl)] ∧
      ∃ b, hpd < b ∧ gd < b ∧ (∀ p ∈ rest, p.1 < b) ∧ Above b new ∧ hpd < sgd ∧ gd < sgd ∧ (∀ p ∈ rest, p.1 < sgd) ∧ ∀ q ∈ new, q.1 ≠ sgd) := by
  have b1 := hR.stash
  intro dp un gd' cn cs a ccd cl outer A₀ base h₀ L m s mean mg mb Q E B F X N T hk hd hu hret
  refine wpAny_call ?_
  k_dflt (refine' code_def (binds := [(Str.ofString "run", .ref rn), (Str.ofString "node", .ref nd)]) ?k1 ?k2 ?k3 ?k4 ?k5 ?kA ?kF ?kK ?k6 ?k7 ?k8 ?k9 ?kB ?_ ?c2 ?c3 ?c4 ?c5; (case kA => exact rfl); (case kF => exact rfl); (case kK => assumption); (case k1 => k_asm); (case k2 => k_asm); (case k3 => k_asm); (case k4 => k_asm); (case k5 => k_asm); (case k6 => k_is); (case k7 => k_is); (case k8 => ktr_room); (case k9 => first | exact BindsTo.of_eq rfl | exact binds_K (by k_in) rfl (by k_is) rfl rfl rfl); (case c5 => decide); (case kB => exact locs rfl); (case c2 => exact rfl); (case c3 => exact rfl); (case c4 => exact rfl); k_whole; intro g' L' h' FG' F' N' B' X' T'; (try dsimp only); (try k_fold); k_extra "fA")
  repeat ((fail_if_success (with_reducible show wpAny _ _ (call (Value.ref 712) _) _ _ _)); (first | (k_unfold; (try dsimp only)) | walk1 | (dsimp only; walk1)))
  k_here
  k_dflt (refine' Spec.use15 (hash_of_first a3 a4 a5 hd0 lo o1 o2 o3) ?k1 ?k2 ?k3 ?k4 ?k5 ?kK ?kd ?ku ?_; (case k1 => k_asm); (case k2 => k_asm); (case k3 => k_asm); (case k4 => k_asm); (case k5 => k_asm); (case kK => first | exact rfl | assumption); (case kd => ktr_room); (case ku => ktr_units))
  intro x d es1 n1 new tb d2 es2 n2 new2 k' tk9' o9 num t9 h9 tk9 F9 N9 p9
  refine' an7 p9 ?_
  clear p9
  intro hT hh hnum htied hnr hlen hd9
  repeat ((fail_if_success (with_reducible show wpAny _ _ (call (Value.ref 499) _) _ _ _)); (first | (k_unfold; (try dsimp only)) | walk1 | (dsimp only; walk1)))
  k_here
  k_dflt (refine' Spec.use8 (named_cls) ?k1 ?k2 ?k3 ?k4 ?k5 ?kK ?kd ?ku ?_; (case k1 => k_asm); (case k2 => k_asm); (case k3 => k_asm); (case k4 => k_asm); (case k5 => k_asm); (case kK => first | exact rfl | assumption); (case kd => ktr_room); (case ku => ktr_units))
  intro sg sgd i1 i2 i3 j1 j2 j3 h9 tk9 F9 N9 p9
  refine' an2 p9 ?_
  clear p9
  intro hs hlow
  have hs2 := hlow _ (.head _)
  repeat ((fail_if_success (with_reducible show wpAny _ _ (setAttr _ _ _) _ _ _)); (first | (k_unfold; (try dsimp only)) | walk1 | (dsimp only; walk1)))
  k_here
  k_dflt (refine' set_opq ?hr ?hl ?F ?X ?N ?ha ?c1 ?c2 ?c3 ?c4 ?off ?_; (case hr => exact hnr); (case hl => exact Nat.le_trans hlen (by decide)); (case F => k_asm); (case X => k_asm); (case N => exact News.pull (.tail (.tail .head)) (by k_asm)); (case ha => exact .tail _ (.tail _ (.tail _ (.tail _ (.tail _ (List.mem_append_right _ (.head _))))))); (case c1 => k_is); (case c2 => k_is); (case c3 => k_is); (case c4 => k_is); (case off => exact List.forall_mem_cons.mpr ⟨Nat.ne_of_gt hs2, List.forall_mem_cons.mpr ⟨Nat.ne_of_gt (Nat.lt_trans hs2 hs), hT.off2⟩⟩))
  intro h9 es5 n5 tk9 F9 N9 P5
  k_steps
  have hgs : ∀ q ∈ gnew d2 d tb x (dictOf es5 n5) (dictOf es1 n1) (instObj 78 d2) (instObj 97 d) new new2, q.1 < sgd := by
    have hl := fun q hq => hlow q (.tail _ hq)
    refine List.forall_mem_cons.mpr ⟨hs2, List.forall_mem_cons.mpr ⟨hl _ (.head _), forall_app (fun q hq => hl q (.tail _ (.tail _ (.tail _ (List.mem_append_left _ hq))))) (List.forall_mem_cons.mpr ⟨hl (tb, instObj 78 d2) (.tail _ (.tail _ (.tail _ (List.mem_append_right _ (.head _))))), forall_app (fun q hq => hl q (.tail _ (.tail _ (.tail _ (List.mem_append_right _ (.tail _ (List.mem_append_left _ hq))))))) (List.forall_mem_cons.mpr ⟨hl (x, instObj 97 d) (.tail _ (.tail _ (.tail _ (List.mem_append_right _ (.tail _ (List.mem_append_right _ (.head _))))))), fun _ h => nomatch h⟩)⟩)⟩⟩
  exact hret _ _ _ _ (by k_asm) (News.gl2 (News.dig2 News.gl0 (News.gl1 (by k_asm)))) (exI15 ⟨rfl, rfl, .head _, (gnew_tab (P5.keep _ _ (by decide) hnum) P5.has).mono fun _ h => .tail _ h, (gnew_glob hh).mono fun _ h => .tail _ h, hd9, d, hT.e1, hT.e2, hT.e3, List.forall_mem_cons.mpr ⟨Nat.le_of_lt (Nat.lt_trans hT.f3 (Nat.lt_trans hs2 hs)), gnew_above hT⟩, Nat.lt_trans hT.e1 (Nat.lt_trans hT.f3 hs2), Nat.lt_trans hT.e2 (Nat.lt_trans hT.f3 hs2), fun p hp => Nat.lt_trans (hT.e3 p hp) (Nat.lt_trans hT.f3 hs2), List.forall_mem_cons.mpr ⟨Nat.ne_of_gt hs, fun q hq => Nat.ne_of_lt (hgs q hq)⟩⟩)
set_option maxRecDepth 100000 in
set_option maxHeartbeats 8000000 in
theorem glob_other2 {w : World} {rn rnd hp hpd ct st std sv pd gd nd gl : Addr} {es : List DictEntry} {rnn : Nat} {mv lim zl : Value} {h1 h2 h3 l1 l2 l3 k : Int} {t1 t2 t3 u1 u2 u3 tk tks ta tb : Tok} {o : Obj} {rest : Led} (hR : RunEs es hp ct st sv pd mv) (a1 : (rn, instObj 623 rnd) ∈ rest) (a2 : (rnd, dictOf es rnn) ∈ rest) (a3 : (st, instObj 729 std) ∈ rest) (a4 : (std, stO h1 h2 h3 t1 t2 t3 hp gd 0 tks) ∈ rest) (a5 : (hp, instObj 180 hpd) ∈ rest)
    (a6 : (nd, tupO [.str (Str.ofString "globh") ta, .str (Str.ofString "main::h") tb]) ∈ rest) (hd0 : o.IsDictOf (PySem.strKind PG w) [(Str.ofString "main::+", .ref gl)]) (lo : (gd == sysModules) = false) (o1 : ∀ p ∈ rest, p.1 ≠ hpd) (o2 : ∀ p ∈ rest, p.1 ≠ gd) (o3 : @Ne Nat hpd gd) :
    Spec w 510 [.ref rn, .ref nd] ((hpd, hpO l1 l2 l3 u1 u2 u3 lim zl k tk) :: (gd, o) :: rest) 24 (fun r news' => ∃ tb gl2 o' k' tk' num new, r = .ref tb ∧
      news' = (hpd, hpO l1 l2 l3 u1 u2 u3 lim zl k' tk') :: (gd, o') :: (new ++ rest) ∧ TabRep new tb num .none ∧ o'.IsDictOf (PySem.strKind PG w) [(Str.ofString "main::+", .ref gl), (Str.ofString "main::h", .ref gl2)] ∧
      ∃ b, hpd < b ∧ gd < b ∧ (∀ p ∈ rest, p.1 < b) ∧ Above b new) := by
  have b1 := hR.stash
  intro dp un gd' cn cs a ccd cl outer A₀ base h₀ L m s mean mg mb Q E B F X N T hk hd hu hret
  refine wpAny_call ?_
  k_dflt (refine' code_def (binds := [(Str.ofString "run", .ref rn), (Str.ofString "node", .ref nd)]) ?k1 ?k2 ?k3 ?k4 ?k5 ?kA ?kF ?kK ?k6 ?k7 ?k8 ?k9 ?kB ?_ ?c2 ?c3 ?c4 ?c5; (case kA => exact rfl); (case kF => exact rfl); (case kK => assumption); (case k1 => k_asm); (case k2 => k_asm); (case k3 => k_asm); (case k4 => k_asm); (case k5 => k_asm); (case k6 => k_is); (case k7 => k_is); (case k8 => ktr_room); (case k9 => first | exact BindsTo.of_eq rfl | exact binds_K (by k_in) rfl (by k_is) rfl rfl rfl); (case c5 => decide); (case kB => exact locs rfl); (case c2 => exact rfl); (case c3 => exact rfl); (case c4 => exact rfl); k_whole; intro g' L' h' FG' F' N' B' X' T'; (try dsimp only); (try k_fold); k_extra "fA")
  repeat ((fail_if_success (with_reducible show wpAny _ _ (call (Value.ref 712) _) _ _ _)); (first | (k_unfold; (try dsimp only)) | walk1 | (dsimp only; walk1)))
  k_here
  k_dflt (refine' Spec.use15 (hash_of_other a3 a4 a5 hd0 lo o1 o2 o3) ?k1 ?k2 ?k3 ?k4 ?k5 ?kK ?kd ?ku ?_; (case k1 => k_asm); (case k2 => k_asm); (case k3 => k_asm); (case k4 => k_asm); (case k5 => k_asm); (case kK => first | exact rfl | assumption); (case kd => ktr_room); (case ku => ktr_units))
  intro x d es1 n1 new tb d2 es2 n2 new2 k' tk9' o9 num t9 h9 tk9 F9 N9 p9
  refine' an7 p9 ?_
  clear p9
  intro hT hh hnum htied hnr hlen hd9
  k_steps
  exact hret _ _ _ _ (by k_asm) (News.gl0 (by k_asm)) (exI7 ⟨rfl, rfl, gnew_tab hnum htied, hd9, d, hT.e1, hT.e2, hT.e3, gnew_above hT⟩)
set_option maxRecDepth 100000 in
set_option maxHeartbeats 8000000 in
theorem new_scalar_spec {w : World} {hp hpd : Addr} {l1 l2 l3 k : Int} {u1 u2 u3 tk : Tok} {lim zl : Value} {rest : Led} (a5 : (hp, instObj 180 hpd) ∈ rest) (o1 : ∀ p ∈ rest, p.1 ≠ hpd) :
    Spec w 149 [.ref hp, .none] ((hpd, hpO l1 l2 l3 u1 u2 u3 lim zl k tk) :: rest) 8 (fun r news' => ∃ x d es n new tk' t, r = .ref x ∧ news' = (d, dictOf es n) :: (new ++ (x, instObj 59 d) :: (hpd, hpO l1 l2 l3 u1 u2 u3 lim zl (k + 1) tk') :: rest) ∧ Made 59 x d es new ((hpd, hpO l1 l2 l3 u1 u2 u3 lim zl (k + 1) tk') :: rest) ∧
      getL (Str.ofString "number") es = some (some (.int (k + 1) t)) ∧ getL (Str.ofString "magic") es = some (some .none)) := by
  intro dp un gd' cn cs a ccd cl outer A₀ base h₀ L m s mean mg mb Q E B F X N T hk hd hu hret
  refine wpAny_call ?_
  k_dflt (refine' code_def (binds := [(Str.ofString "self", .ref hp), (Str.ofString "value", .none)]) ?k1 ?k2 ?k3 ?k4 ?k5 ?kA ?kF ?kK ?k6 ?k7 ?k8 ?k9 ?kB ?_ ?c2 ?c3 ?c4 ?c5; (case kA => exact rfl); (case kF => exact rfl); (case kK => assumption); (case k1 => k_asm); (case k2 => k_asm); (case k3 => k_asm); (case k4 => k_asm); (case k5 => k_asm); (case k6 => k_is); (case k7 => k_is); (case k8 => ktr_room); (case k9 => first | exact BindsTo.of_eq rfl | exact binds_K (by k_in) rfl (by k_is) rfl rfl rfl); (case c5 => decide); (case kB => exact locs rfl); (case c2 => exact rfl); (case c3 => exact rfl); (case c4 => exact rfl); k_whole; intro g' L' h' FG' F' N' B' X' T'; (try dsimp only); (try k_fold); k_extra "fA")
  repeat ((fail_if_success (with_reducible show wpAny _ _ (call (Value.ref 142) _) _ _ _)); (first | (k_unfold; (try dsimp only)) | walk1 | (dsimp only; walk1)))
  k_here
  k_dflt (refine' Spec.use2e (number_spec a5 o1) ?k1 ?k2 ?k3 ?k4 ?k5 ?kK ?kd ?ku ?_; (case k1 => k_asm); (case k2 => k_asm); (case k3 => k_asm); (case k4 => k_asm); (case k5 => k_asm); (case kK => first | exact rfl | assumption); (case kd => ktr_room); (case ku => ktr_units))
  intro t9 tk9' h9 tk9 F9 N9
  repeat ((fail_if_success (with_reducible show wpAny _ _ (call (Value.ref 59) _) _ _ _)); (first | (k_unfold; (try dsimp only)) | walk1 | (dsimp only; walk1)))
  k_here
  k_dflt (refine' Spec.use5 (scalar_cls) ?k1 ?k2 ?k3 ?k4 ?k5 ?kK ?kd ?ku ?_; (case k1 => k_asm); (case k2 => k_asm); (case k3 => k_asm); (case k4 => k_asm); (case k5 => k_asm); (case kK => first | exact rfl | assumption); (case kd => ktr_room); (case ku => ktr_units))
  intro x d es n new h9 tk9 F9 N9 p9
  refine' an2 p9 ?_
  clear p9
  intro hM hh
  k_steps
  exact hret _ _ _ _ (by k_asm) (by k_asm) (exI7 ⟨rfl, rfl, hM, hh⟩)
set_option maxRecDepth 100000 in
set_option maxHeartbeats 8000000 in
theorem group_cls {w : World} {rn : Addr} {key : Str} {kt : Tok} {rest : Led} : Spec w 408 [.ref rn, .str key kt] rest 5 (fun r news' => ∃ ng ngd h1 h2 t1 t2 n, r = .ref ng ∧ news' = (ngd, dictOf [⟨h1, .str (Str.ofString "run") t1, .ref rn⟩, ⟨h2, .str (Str.ofString "name") t2, .str key kt⟩] n) :: (ng, instObj 408 ngd) :: rest ∧ ngd < ng ∧ ∀ p ∈ rest, p.1 < ngd) := by
  intro dp un gd' cn cs a ccd cl outer A₀ base h₀ L m s mean mg mb Q E B F X N T hk hd hu hret
  k_dflt (refine' call_cls ?k1 ?k2 ?k3 ?k4 ?k5 ?k6 ?_; (case k1 => k_asm); (case k2 => k_asm); (case k3 => k_asm); (case k4 => k_is); (case k5 => k_is); (case k6 => k_is); k_whole; intro x' d' h' F' N' l1 l2; (try k_lt l1); (try k_lt2 l2))
  k_dflt (refine' code_def (binds := [(Str.ofString "self", .ref x'), (Str.ofString "run", .ref rn), (Str.ofString "name", .str key kt)]) ?k1 ?k2 ?k3 ?k4 ?k5 ?kA ?kF ?kK ?k6 ?k7 ?k8 ?k9 ?kB ?_ ?c2 ?c3 ?c4 ?c5; (case kA => exact rfl); (case kF => exact rfl); (case kK => assumption); (case k1 => k_asm); (case k2 => k_asm); (case k3 => k_asm); (case k4 => k_asm); (case k5 => k_asm); (case k6 => k_is); (case k7 => k_is); (case k8 => ktr_room); (case k9 => first | exact BindsTo.of_eq rfl | exact binds_K (by k_in) rfl (by k_is) rfl rfl rfl); (case c5 => decide); (case kB => exact locs rfl); (case c2 => exact rfl); (case c3 => exact rfl); (case c4 => exact rfl); k_whole; intro g' L' h' FG' F' N' B' X' T'; (try dsimp only); (try k_fold); k_extra "fA")
  k_steps
  exact hret _ _ _ _ (by k_asm) (News.sw (by k_asm)) (exI7 ⟨rfl, rfl, by assumption, allLt_mem (by assumption)⟩)
theorem News.el {h₀ h : Heap} {L : Addr} {d g1 g2 x p : Addr × Obj} {l r : Led} (N : News h₀ L h (d :: g1 :: g2 :: (l ++ x :: p :: r))) : News h₀ L h (p :: ((d :: g1 :: g2 :: (l ++ [x])) ++ r)) := fun q hp => N q (by
  rcases List.mem_cons.mp hp with rfl | hp
  · exact .tail _ (.tail _ (.tail _ (List.mem_append_right _ (.tail _ (.head _)))))
  · rcases List.mem_append.mp hp with hp | hp
    · rcases List.mem_cons.mp hp with rfl | hp
      · exact .head _
      · rcases List.mem_cons.mp hp with rfl | hp
        · exact .tail _ (.head _)
        · rcases List.mem_cons.mp hp with rfl | hp
          · exact .tail _ (.tail _ (.head _))
          · refine .tail _ (.tail _ (.tail _ ((List.mem_append.mp hp).elim (fun h => List.mem_append_left _ h) fun h => List.mem_append_right _ ?_)))
            rw [List.mem_singleton.mp h]
            exact .head _
    · exact .tail _ (.tail _ (.tail _ (List.mem_append_right _ (.tail _ (.tail _ hp))))))
set_option maxRecDepth 100000 in
set_option maxHeartbeats 8000000 in
theorem elem_spec2 {w : World} {sg sgd rn rnd hp hpd : Addr} {h1 h2 h3 l1 l2 l3 : Int} {t1 t2 t3 u1 u2 u3 : Tok} {lv lim zl : Value} {rnn : Nat} {es : List DictEntry} {k : Int} {tk : Tok} {rest : Led} {key : Str} {kt : Tok}
    (g1 : (sg, instObj 499 sgd) ∈ rest) (g2 : (sgd, sgO h1 h2 h3 t1 t2 t3 rn lv) ∈ rest) (g3 : (rn, instObj 623 rnd) ∈ rest) (g4 : (rnd, dictOf es rnn) ∈ rest) (g5 : getL (Str.ofString "heap") es = some (some (.ref hp))) (g6 : (hp, instObj 180 hpd) ∈ rest)
    (hoff : ∀ p ∈ rest, p.1 ≠ hpd) :
    Spec w 433 [.ref sg, .str key kt] ((hpd, hpO l1 l2 l3 u1 u2 u3 lim zl k tk) :: rest) 16 (fun r news' => ∃ sc new tk' b, r = .ref sc ∧ news' = (hpd, hpO l1 l2 l3 u1 u2 u3 lim zl (k + 1) tk') :: (new ++ rest) ∧ ScalarRep new rn key sc ∧ (hpd < b ∧ ∀ p ∈ rest, p.1 < b) ∧ Above b new) := by
  intro dp un gd cn cs a ccd cl outer A₀ base h₀ L m s mean mg mb Q E B F X N T hk hd hu hret
  refine wpAny_call ?_
  k_dflt (refine' code_def (binds := [(Str.ofString "self", .ref sg), (Str.ofString "key", .str key kt)]) ?k1 ?k2 ?k3 ?k4 ?k5 ?kA ?kF ?kK ?k6 ?k7 ?k8 ?k9 ?kB ?_ ?c2 ?c3 ?c4 ?c5; (case kA => exact rfl); (case kF => exact rfl); (case kK => assumption); (case k1 => k_asm); (case k2 => k_asm); (case k3 => k_asm); (case k4 => k_asm); (case k5 => k_asm); (case k6 => k_is); (case k7 => k_is); (case k8 => ktr_room); (case k9 => first | exact BindsTo.of_eq rfl | exact binds_K (by k_in) rfl (by k_is) rfl rfl rfl); (case c5 => decide); (case kB => exact locs rfl); (case c2 => exact rfl); (case c3 => exact rfl); (case c4 => exact rfl); k_whole; intro g' L' h' FG' F' N' B' X' T'; (try dsimp only); (try k_fold); k_extra "fA")
  repeat ((fail_if_success (with_reducible show wpAny _ _ (call (Value.ref 149) _) _ _ _)); (first | (k_unfold; (try dsimp only)) | walk1 | (dsimp only; walk1)))
  k_here
  k_dflt (refine' Spec.use7 (new_scalar_spec g6 hoff) ?k1 ?k2 ?k3 ?k4 ?k5 ?kK ?kd ?ku ?_; (case k1 => k_asm); (case k2 => k_asm); (case k3 => k_asm); (case k4 => k_asm); (case k5 => k_asm); (case kK => first | exact rfl | assumption); (case kd => ktr_room); (case ku => ktr_units))
  intro x d es1 n1 new tk9' t9 h9 tk9 F9 N9 p9
  refine' an3 p9 ?_
  clear p9
  intro hM hnum hmag
  repeat ((fail_if_success (with_reducible show wpAny _ _ (call (Value.ref 408) _) _ _ _)); (first | (k_unfold; (try dsimp only)) | walk1 | (dsimp only; walk1)))
  k_here
  k_dflt (refine' Spec.use7 (group_cls) ?k1 ?k2 ?k3 ?k4 ?k5 ?kK ?kd ?ku ?_; (case k1 => k_asm); (case k2 => k_asm); (case k3 => k_asm); (case k4 => k_asm); (case k5 => k_asm); (case kK => first | exact rfl | assumption); (case kd => ktr_room); (case ku => ktr_units))
  intro ng ngd i1 i2 j1 j2 n9 h9 tk9 F9 N9 p9
  refine' an2 p9 ?_
  clear p9
  intro hs hlow
  have hs2 := hlow _ (.head _)
  repeat ((fail_if_success (with_reducible show wpAny _ _ (setAttr _ _ _) _ _ _)); (first | (k_unfold; (try dsimp only)) | walk1 | (dsimp only; walk1)))
  k_here
  k_dflt (refine' set_opq ?hr ?hl ?F ?X ?N ?ha ?c1 ?c2 ?c3 ?c4 ?off ?_; (case hr => exact hM.noref); (case hl => exact Nat.le_trans hM.len (by decide)); (case F => k_asm); (case X => k_asm); (case N => exact News.pull (.tail (.tail .head)) (by k_asm)); (case ha => exact .tail _ (.tail _ (List.mem_append_right _ (.head _)))); (case c1 => k_is); (case c2 => k_is); (case c3 => k_is); (case c4 => k_is); (case off => exact List.forall_mem_cons.mpr ⟨Nat.ne_of_gt hs2, List.forall_mem_cons.mpr ⟨Nat.ne_of_gt (Nat.lt_trans hs2 hs), hM.offs' (List.forall_mem_cons.mpr ⟨Nat.ne_of_lt (hM.low _ (.head _)), fun p hp => Nat.ne_of_lt (hM.low p (.tail _ hp))⟩)⟩⟩))
  intro h9 es5 n5 tk9 F9 N9 P5
  k_steps
  exact hret _ _ _ _ (by k_asm) (News.el (by k_asm)) (exI4 ⟨rfl, rfl, ⟨d, es5, n5, _, _, ng, ngd, _, _, _, _, _, _, .tail _ (.tail _ (.tail _ (List.mem_append_right _ (.head _)))), .head _, P5.keep _ _ (by decide) hnum, P5.has, .tail _ (.tail _ (.head _)), .tail _ (.head _)⟩, ⟨hM.low _ (.head _), fun p hp => hM.low p (.tail _ hp)⟩, List.forall_mem_cons.mpr ⟨Nat.le_refl _, List.forall_mem_cons.mpr ⟨Nat.le_of_lt hs2, List.forall_mem_cons.mpr ⟨Nat.le_of_lt (Nat.lt_trans hs2 hs), forall_app (fun q hq => Nat.le_of_lt (hM.up q hq).1) (List.forall_mem_cons.mpr ⟨Nat.le_of_lt hM.lt, fun _ h => nomatch h⟩)⟩⟩⟩⟩)
theorem rs_globa : True := by
  w_top off
  trivial
set_option maxRecDepth 100000 in
set_option maxHeartbeats 8000000 in
theorem glob_again {w : World} {rn rnd hp ct st std sv pd gd nd gl gl2 tbl sg : Addr} {es : List DictEntry} {rnn : Nat} {mv : Value} {h1 h2 h3 num : Int} {t1 t2 t3 tks ta tb : Tok} {o : Obj} {rest : Led} (hR : RunEs es hp ct st sv pd mv) (a1 : (rn, instObj 623 rnd) ∈ rest) (a2 : (rnd, dictOf es rnn) ∈ rest) (a3 : (st, instObj 729 std) ∈ rest) (a4 : (std, stO h1 h2 h3 t1 t2 t3 hp gd 0 tks) ∈ rest)
    (a6 : (nd, tupO [.str (Str.ofString "globh") ta, .str (Str.ofString "main::+") tb]) ∈ rest) (hd0 : o.IsDictOf (PySem.strKind PG w) [(Str.ofString "main::+", .ref gl), (Str.ofString "main::h", .ref gl2)]) (lo : (gd == sysModules) = false)
    (hG : GlobRep rest gl tbl) (hT : TabRep rest tbl num (.ref sg)) :
    Spec w 510 [.ref rn, .ref nd] ((gd, o) :: rest) 24 (fun r news' => r = .ref tbl ∧ news' = (gd, o) :: rest) := by
  have b1 := hR.stash
  obtain ⟨gld, es2, n2, g1, g2, g3⟩ := hG
  obtain ⟨tbd, es3, n3, tkn, g4, g5, g6, g7⟩ := hT
  intro dp un gd' cn cs a ccd cl outer A₀ base h₀ L m s mean mg mb Q E B F X N T hk hd hu hret
  refine wpAny_call ?_
  k_dflt (refine' code_def (binds := [(Str.ofString "run", .ref rn), (Str.ofString "node", .ref nd)]) ?k1 ?k2 ?k3 ?k4 ?k5 ?kA ?kF ?kK ?k6 ?k7 ?k8 ?k9 ?kB ?_ ?c2 ?c3 ?c4 ?c5; k_extra "m def")
  k_steps
  all_goals first | exact hret _ _ _ _ (by k_asm) (by k_asm) ⟨rfl, rfl⟩
theorem rs_keysnow : True := by
  w_top off
  trivial
theorem foundC_len {cur : Option MD} (ok : ∀ M, cur = some M → M.Ok) : (foundC cur).length ≤ 3 := by
  cases cur with
  | none => exact Nat.zero_le _
  | some M => exact Nat.le_trans (List.length_filterMap_le _ _) (ok M rfl).nlen
theorem CurRep.okM {w : World} {news : Led} {rn : Addr} {cur : Option MD} (h : CurRep w news rn cur) : ∀ M, cur = some M → M.Ok := by
  rintro M rfl
  obtain ⟨rnd, es, n, pd, pn, mv, pv, a, b, c, d, e, f, f', g⟩ := h
  exact g.1
set_option maxRecDepth 100000 in
set_option maxHeartbeats 8000000 in
theorem keys_now_spec {w : World} {sg sgd rn : Addr} {h1 h2 h3 : Int} {t1 t2 t3 : Tok} {lv : Value} {news : Led} {cur : Option MD} (hC : CurRep w news rn cur)
    (g1 : (sg, instObj 499 sgd) ∈ news) (g2 : (sgd, sgO h1 h2 h3 t1 t2 t3 rn lv) ∈ news) :
    Spec w 475 [.ref sg] news 16 (fun r news' => ∃ ld vs c, r = .ref ld ∧ news' = (ld, listOf vs.toArray c) :: news ∧ StrsAre vs ((foundC cur).map (·.1)) ∧ ∀ p ∈ news, p.1 < ld) := by
  have hfl := foundC_len hC.okM
  intro dp un gd cn cs a ccd cl outer A₀ base h₀ L m s mean mg mb Q E B F X N T hk hd hu hret
  refine wpAny_call ?_
  k_dflt (refine' code_def (binds := [(Str.ofString "self", .ref sg)]) ?k1 ?k2 ?k3 ?k4 ?k5 ?kA ?kF ?kK ?k6 ?k7 ?k8 ?k9 ?kB ?_ ?c2 ?c3 ?c4 ?c5; k_extra "m def")
  repeat' (first | (k_unfold; (try dsimp only)) | k_extra "r rules_1" | k_extra "r named_1" | (k_end; kc_close) | walk1 | (dsimp only; walk1) | (leave1; walk_say "STEP leave1"; (try dsimp only)))
  exact hret _ _ _ _ (by k_asm) (News.d2 (by k_asm)) (exI3 ⟨rfl, rfl, (by rw [← PairsAre.keys (by assumption)]; assumption), allLt_mem (by assumption)⟩)
theorem rs_meths : True := by
  w_top off
  trivial
set_option maxRecDepth 100000 in
set_option maxHeartbeats 8000000 in
theorem has_key_spec {w : World} {sg sgd rn : Addr} {h1 h2 h3 : Int} {t1 t2 t3 : Tok} {lv : Value} {news : Led} {cur : Option MD} {key : Str} {kt : Tok} (hC : CurRep w news rn cur)
    (g1 : (sg, instObj 499 sgd) ∈ news) (g2 : (sgd, sgO h1 h2 h3 t1 t2 t3 rn lv) ∈ news) :
    Spec w 440 [.ref sg, .str key kt] news 16 (fun r news' => r = .bool (look (foundC cur) key).isSome ∧ news' = news) := by
  intro dp un gd cn cs a ccd cl outer A₀ base h₀ L m s mean mg mb Q E B F X N T hk hd hu hret
  refine wpAny_call ?_
  k_dflt (refine' code_def (binds := [(Str.ofString "self", .ref sg), (Str.ofString "key", .str key kt)]) ?k1 ?k2 ?k3 ?k4 ?k5 ?kA ?kF ?kK ?k6 ?k7 ?k8 ?k9 ?kB ?_ ?c2 ?c3 ?c4 ?c5; k_extra "m def")
  repeat' (first | (k_unfold; (try dsimp only)) | k_extra "r rules_2" | k_extra "r named_1" | (k_end; kc_close) | walk1 | (dsimp only; walk1) | (leave1; walk_say "STEP leave1"; (try dsimp only)))
  exact hret _ _ _ _ (by k_asm) (News.t1 (by k_asm)) ⟨by rw [← (look_pairs (by assumption) key).2], rfl⟩
set_option maxRecDepth 100000 in
set_option maxHeartbeats 8000000 in
theorem truth_spec {w : World} {sg sgd rn : Addr} {h1 h2 h3 : Int} {t1 t2 t3 : Tok} {lv : Value} {news : Led} {cur : Option MD} (hC : CurRep w news rn cur)
    (g1 : (sg, instObj 499 sgd) ∈ news) (g2 : (sgd, sgO h1 h2 h3 t1 t2 t3 rn lv) ∈ news) :
    Spec w 496 [.ref sg] news 20 (fun r news' => (∃ t, r = .int (foundC cur).length t) ∧ news' = news) := by
  have hfl := foundC_len hC.okM
  intro dp un gd cn cs a ccd cl outer A₀ base h₀ L m s mean mg mb Q E B F X N T hk hd hu hret
  refine wpAny_call ?_
  k_dflt (refine' code_def (binds := [(Str.ofString "self", .ref sg)]) ?k1 ?k2 ?k3 ?k4 ?k5 ?kA ?kF ?kK ?k6 ?k7 ?k8 ?k9 ?kB ?_ ?c2 ?c3 ?c4 ?c5; k_extra "m def")
  repeat' (first | (k_unfold; (try dsimp only)) | k_extra "r keysnow_1" | (k_end; kc_close) | walk1 | (dsimp only; walk1) | (leave1; walk_say "STEP leave1"; (try dsimp only)))
  exact hret _ _ _ _ (by k_asm) (News.t1 (by k_asm)) ⟨⟨_, by rw [strs_len (by assumption), List.length_map]⟩, rfl⟩
set_option maxRecDepth 100000 in
set_option maxHeartbeats 8000000 in
theorem get_spec {w : World} {ng ngd rn : Addr} {h1 h2 : Int} {t1 t2 t3 : Tok} {n : Nat} {news : Led} {cur : Option MD} {name : Str} (hC : CurRep w news rn cur)
    (g1 : (ng, instObj 408 ngd) ∈ news) (g2 : (ngd, dictOf [⟨h1, .str (Str.ofString "run") t1, .ref rn⟩, ⟨h2, .str (Str.ofString "name") t2, .str name t3⟩] n) ∈ news) :
    Spec w 398 [.ref ng] news 16 (fun r news' => OptStr r (look (foundC cur) name) ∧ news' = news) := by
  intro dp un gd cn cs a ccd cl outer A₀ base h₀ L m s mean mg mb Q E B F X N T hk hd hu hret
  refine wpAny_call ?_
  k_dflt (refine' code_def (binds := [(Str.ofString "self", .ref ng)]) ?k1 ?k2 ?k3 ?k4 ?k5 ?kA ?kF ?kK ?k6 ?k7 ?k8 ?k9 ?kB ?_ ?c2 ?c3 ?c4 ?c5; k_extra "m def")
  repeat' (first | (k_unfold; (try dsimp only)) | k_extra "r rules_4" | k_extra "r named_1" | (k_end; kc_close) | walk1 | (dsimp only; walk1) | (leave1; walk_say "STEP leave1"; (try dsimp only)))
  exact hret _ _ _ _ (by k_asm) (News.t1 (by k_asm)) ⟨(look_pairs (by assumption) name).1, rfl⟩
theorem rs_valueof : True := by
  w_top off
  trivial
set_option maxRecDepth 100000 in
set_option maxHeartbeats 8000000 in
theorem value_of_spec {w : World} {sc rn : Addr} {news : Led} {cur : Option MD} {name : Str} (hC : CurRep w news rn cur) (hS : ScalarRep news rn name sc) :
    Spec w 191 [.ref sc] news 20 (fun r news' => OptStr r (look (foundC cur) name) ∧ news' = news) := by
  obtain ⟨scd, es, n, num, nt, ng, ngd, q1, q2, t1, t2, t3, n', g1, g2, g3, g4, g5, g6⟩ := hS
  intro dp un gd cn cs a ccd cl outer A₀ base h₀ L m s mean mg mb Q E B F X N T hk hd hu hret
  refine wpAny_call ?_
  k_dflt (refine' code_def (binds := [(Str.ofString "x", .ref sc)]) ?k1 ?k2 ?k3 ?k4 ?k5 ?kA ?kF ?kK ?k6 ?k7 ?k8 ?k9 ?kB ?_ ?c2 ?c3 ?c4 ?c5; k_extra "m def")
  repeat' (first | (k_unfold; (try dsimp only)) | k_extra "r meths_3" | (k_end; kc_close) | walk1 | (dsimp only; walk1) | (leave1; walk_say "STEP leave1"; (try dsimp only)))
  exact hret _ _ _ _ (by k_asm) (by k_asm) ⟨by assumption, rfl⟩
theorem rs_elem : True := by
  w_top off
  trivial
/-! elem's contract -/
theorem elem_spec3 {w : World} {sg sgd rn hp hpd : Addr} {h1 h2 h3 l1 l2 l3 : Int} {t1 t2 t3 u1 u2 u3 : Tok} {lv lim zl : Value} {k : Int} {tk : Tok} {rest : Led} {key : Str} {kt : Tok}
    (g1 : (sg, instObj 499 sgd) ∈ rest) (g2 : (sgd, sgO h1 h2 h3 t1 t2 t3 rn lv) ∈ rest) (hH : HeapRep rest rn hp hpd) (hoff : ∀ p ∈ rest, p.1 ≠ hpd) :
    Spec w 433 [.ref sg, .str key kt] ((hpd, hpO l1 l2 l3 u1 u2 u3 lim zl k tk) :: rest) 16 (fun r news' => ∃ sc new tk' b, r = .ref sc ∧ news' = (hpd, hpO l1 l2 l3 u1 u2 u3 lim zl (k + 1) tk') :: (new ++ rest) ∧ ScalarRep new rn key sc ∧ (hpd < b ∧ ∀ p ∈ rest, p.1 < b) ∧ Above b new) := by
  obtain ⟨rnd, es, n, a, b, c, d⟩ := hH
  exact elem_spec2 g1 g2 a b c d hoff
theorem rs_nextkey : True := by
  w_top off
  trivial
theorem opt_getD {xs : List Str} {k : Int} {i : Nat} {t : Tok} (e : k.toNat = i) (h : i < xs.length) : OptStr (.str (xs.getD k.toNat Str.empty) t) xs[i]? := by
  subst e
  rw [List.getElem?_eq_getElem h]
  exact ⟨t, by simp [List.getD, h]⟩
theorem opt_out {xs : List Str} {i : Nat} (h : ¬ i < xs.length) : OptStr .none xs[i]? := by
  rw [List.getElem?_eq_none (Nat.le_of_not_lt h)]
  rfl
set_option maxRecDepth 100000 in
set_option maxHeartbeats 8000000 in
theorem keys_spec {w : World} {sg sgd rn : Addr} {h1 h2 h3 : Int} {t1 t2 t3 : Tok} {lv : Value} {rest : Led} {cur : Option MD} (hC : CurRep w rest rn cur)
    (g1 : (sg, instObj 499 sgd) ∈ rest) (hoff : ∀ p ∈ rest, p.1 ≠ sgd) :
    Spec w 482 [.ref sg] ((sgd, sgO h1 h2 h3 t1 t2 t3 rn lv) :: rest) 20 (fun r news' => ∃ ld vs c, r = .ref ld ∧ news' = (ld, listOf vs.toArray c) :: (sgd, sgO h1 h2 h3 t1 t2 t3 rn .none) :: rest ∧ StrsAre vs ((foundC cur).map (·.1)) ∧ sgd < ld ∧ ∀ p ∈ rest, p.1 < ld) := by
  intro dp un gd cn cs a ccd cl outer A₀ base h₀ L m s mean mg mb Q E B F X N T hk hd hu hret
  refine wpAny_call ?_
  k_dflt (refine' code_def (binds := [(Str.ofString "self", .ref sg)]) ?k1 ?k2 ?k3 ?k4 ?k5 ?kA ?kF ?kK ?k6 ?k7 ?k8 ?k9 ?kB ?_ ?c2 ?c3 ?c4 ?c5; k_extra "m def")
  repeat' (first | (k_unfold; (try dsimp only)) | k_extra "r keysnow_1" | (k_end; kc_close) | walk1 | (dsimp only; walk1) | (leave1; walk_say "STEP leave1"; (try dsimp only)))
  exact hret _ _ _ _ (by k_asm) (by k_asm) (exI3 ⟨rfl, rfl, by assumption, by assumption, allLt_mem (by assumption)⟩)
set_option maxRecDepth 100000 in
set_option maxHeartbeats 8000000 in
theorem next_key_first {w : World} {sg sgd rn : Addr} {h1 h2 h3 : Int} {t1 t2 t3 : Tok} {rest : Led} {cur : Option MD} (hC : CurRep w rest rn cur)
    (g1 : (sg, instObj 499 sgd) ∈ rest) (hoff : ∀ p ∈ rest, p.1 ≠ sgd) :
    Spec w 468 [.ref sg] ((sgd, sgO h1 h2 h3 t1 t2 t3 rn .none) :: rest) 20 (fun r news' => news' = (sgd, sgO h1 h2 h3 t1 t2 t3 rn r) :: rest ∧ OptStr r ((foundC cur).map (·.1))[0]?) := by
  have hfl := foundC_len hC.okM
  intro dp un gd cn cs a ccd cl outer A₀ base h₀ L m s mean mg mb Q E B F X N T hk hd hu hret
  refine wpAny_call ?_
  k_dflt (refine' code_def (binds := [(Str.ofString "self", .ref sg)]) ?k1 ?k2 ?k3 ?k4 ?k5 ?kA ?kF ?kK ?k6 ?k7 ?k8 ?k9 ?kB ?_ ?c2 ?c3 ?c4 ?c5; k_extra "m def")
  repeat' (first | (k_unfold; (try dsimp only)) | k_extra "r keysnow_1" | k_extra "r rules_6" | (k_end; kc_close) | walk1 | (dsimp only; walk1) | (leave1; walk_say "STEP leave1"; (try dsimp only)))
  · exact hret _ _ _ _ (by k_asm) (News.t1 (by k_asm)) ⟨rfl, opt_getD rfl (by rw [List.length_map]; omega)⟩
  · exact hret _ _ _ _ (by k_asm) (News.t1 (by k_asm)) ⟨rfl, opt_out (by rw [List.length_map]; omega)⟩
set_option maxRecDepth 100000 in
set_option maxHeartbeats 8000000 in
theorem next_key_on {w : World} {sg sgd rn : Addr} {h1 h2 h3 : Int} {t1 t2 t3 : Tok} {rest : Led} {cur : Option MD} {j : Nat} {k : Str} {t : Tok} (hC : CurRep w rest rn cur)
    (hj : ((foundC cur).map (·.1))[j]? = some k) (hlt : ∀ i y, i < j → ((foundC cur).map (·.1))[i]? = some y → y ≠ k)
    (g1 : (sg, instObj 499 sgd) ∈ rest) (hoff : ∀ p ∈ rest, p.1 ≠ sgd) :
    Spec w 468 [.ref sg] ((sgd, sgO h1 h2 h3 t1 t2 t3 rn (.str k t)) :: rest) 20 (fun r news' => news' = (sgd, sgO h1 h2 h3 t1 t2 t3 rn r) :: rest ∧ OptStr r ((foundC cur).map (·.1))[j + 1]?) := by
  have hfl := foundC_len hC.okM
  have hml : ((foundC cur).map (·.1)).length ≤ 3 := by rw [List.length_map]; exact hfl
  intro dp un gd cn cs a ccd cl outer A₀ base h₀ L m s mean mg mb Q E B F X N T hk hd hu hret
  refine wpAny_call ?_
  k_dflt (refine' code_def (binds := [(Str.ofString "self", .ref sg)]) ?k1 ?k2 ?k3 ?k4 ?k5 ?kA ?kF ?kK ?k6 ?k7 ?k8 ?k9 ?kB ?_ ?c2 ?c3 ?c4 ?c5; k_extra "m def")
  repeat' (first | (k_unfold; (try dsimp only)) | k_extra "r rules_5" | k_extra "r keysnow_1" | k_extra "r rules_3" | k_extra "r rules_6" | (k_end; kc_close) | walk1 | (dsimp only; walk1) | (leave1; walk_say "STEP leave1"; (try dsimp only)))
  · exact hret _ _ _ _ (by k_asm) (News.t1 (by k_asm)) ⟨rfl, opt_getD (by omega) (by rw [List.length_map]; omega)⟩
  · exact hret _ _ _ _ (by k_asm) (News.t1 (by k_asm)) ⟨rfl, opt_out (by rw [List.length_map]; omega)⟩
theorem rs_items : True := by
  w_top off
  trivial
set_option maxRecDepth 100000 in
set_option maxHeartbeats 8000000 in
theorem items_spec {w : World} {sg sgd rn hp hpd : Addr} {h1 h2 h3 l1 l2 l3 : Int} {t1 t2 t3 u1 u2 u3 : Tok} {lv lim zl : Value} {k : Int} {tk0 : Tok} {rest : Led} {cur : Option MD} (hC : CurRep w rest rn cur)
    (g1 : (sg, instObj 499 sgd) ∈ rest) (hH : HeapRep rest rn hp hpd) (hoff : ∀ p ∈ rest, p.1 ≠ sgd) (hoff2 : ∀ p ∈ rest, p.1 ≠ hpd) (hne : @Ne Nat sgd hpd) :
    Spec w 489 [.ref sg] ((sgd, sgO h1 h2 h3 t1 t2 t3 rn lv) :: (hpd, hpO l1 l2 l3 u1 u2 u3 lim zl k tk0) :: rest) 28 (fun r news' => ∃ ol vs c new k' tk' b, r = .ref ol ∧ news' = (ol, listOf vs.toArray c) :: (sgd, sgO h1 h2 h3 t1 t2 t3 rn .none) :: (hpd, hpO l1 l2 l3 u1 u2 u3 lim zl k' tk') :: (new ++ rest) ∧
      RowsAre new rn vs ((foundC cur).map (·.1)) ∧ (sgd < b ∧ hpd < b ∧ ∀ p ∈ rest, p.1 < b) ∧ b ≤ ol ∧ Above b new) := by
  have hfl := foundC_len hC.okM
  intro dp un gd cn cs a ccd cl outer A₀ base h₀ L m s mean mg mb Q E B F X N T hk hd hu hret
  refine wpAny_call ?_
  k_dflt (refine' code_def (binds := [(Str.ofString "self", .ref sg)]) ?k1 ?k2 ?k3 ?k4 ?k5 ?kA ?kF ?kK ?k6 ?k7 ?k8 ?k9 ?kB ?_ ?c2 ?c3 ?c4 ?c5; k_extra "m def")
  repeat' (first | (k_unfold; (try dsimp only)) | k_extra "r macros_7" | k_extra "r nextkey_1" | (k_end; kc_close) | walk1 | (dsimp only; walk1) | (leave1; walk_say "STEP leave1"; (try dsimp only)))
  have zhB9 := trivial; have zhln9 := trivial; have zN9 := trivial; have zhb9 := trivial; have zhs9 := trivial; have zc9 := trivial; have zvs9 := trivial; have zld9 := trivial; have zF9 := trivial; have ztk9 := trivial; have zh9 := trivial
  rename_i ol hx1 q1 q2 q3 hx2 ld vs c9 h9 tk9 F9 N9 hs9 hb9 hln9 q4 q5 hB9
  clear zhB9 zhln9 zN9 zhb9 zhs9 zc9 zvs9 zld9 zF9 ztk9 zh9
  have N9' : News _ _ h9 ((ol, listOf ([] : List Value).toArray 0) :: (sgd, sgO h1 h2 h3 t1 t2 t3 rn .none) :: (hpd, hpO l1 l2 l3 u1 u2 u3 lim zl k tk0) :: (ld, listOf vs.toArray c9) :: ([] ++ rest)) := News.sub1 N9 (by
    k_extra "m sub")
  with_unfolding_all refine iter_listS (vs := vs) (nn := c9) [] (fun i nx => ∃ ws cw k' tkk new, nx = (ol, listOf ws.toArray cw) :: (sgd, sgO h1 h2 h3 t1 t2 t3 rn .none) :: (hpd, hpO l1 l2 l3 u1 u2 u3 lim zl k' tkk) :: (ld, listOf vs.toArray c9) :: (new ++ rest) ∧
    RowsAre new rn ws (((foundC cur).map (·.1)).take i) ∧ (∀ q ∈ new, @LT.lt Nat _ sgd q.1) ∧ (∀ q ∈ new, @LT.lt Nat _ hpd q.1) ∧ (∀ q ∈ new, @LT.lt Nat _ ol q.1) ∧ (∀ q ∈ new, @LT.lt Nat _ ld q.1) ∧ ∀ q ∈ new, ∀ p ∈ rest, p.1 < q.1) (by rfl) (by k_mem) F9 N9' ?_ ?_ ?_ ?_
  · rintro i nx ⟨ws, cw, k', tkk, new, rfl, _⟩
    k_mem
  · exact ⟨[], 0, k, tk0, [], rfl, by simpa using RowsAre.nil, (fun _ h => nomatch h), (fun _ h => nomatch h), (fun _ h => nomatch h), (fun _ h => nomatch h), fun _ h => nomatch h⟩
  · rintro i v u nx h tk2 I oI hv ⟨ws, cw, k', tkk, new, rfl, hR, d1, d2, d3, d4, d5⟩ ho F2 N2
    replace F2 : Fr _ _ h _ := F2
    obtain ⟨y, t, rfl, hy⟩ := hs9.item i v hv
    have i1 : @Ne Nat ol I := ho _ (.head _)
    have i2 : @Ne Nat sgd I := ho _ (.tail _ (.head _))
    have i3 : @Ne Nat hpd I := ho _ (.tail _ (.tail _ (.head _)))
    have i4 : @Ne Nat ld I := ho _ (.tail _ (.tail _ (.tail _ (.head _))))
    have hwl : ws.length ≤ 6 := by
      have h1 := hR.len
      have h2 : (((foundC cur).map (·.1)).take i).length ≤ 3 := by rw [List.length_take, List.length_map]; omega
      omega
    k_unmd
    k_fold
    repeat' (first | (k_unfold; (try dsimp only)) | k_extra "r elem_1" | (k_end; kc_close) | walk1 | (dsimp only; walk1) | (leave1; walk_say "STEP leave1"; (try dsimp only)))
    have zhB9 := trivial; have zhb9 := trivial; have zhA9 := trivial; have zhS9 := trivial; have zb9 := trivial; have ztk9' := trivial; have znew9 := trivial; have zsc9 := trivial
    rename_i sc new2 tkk2 b hS hA e1 e2 e3 e4 e5 e6 e7 hx3 F3 N3
    clear zhB9 zhb9 zhA9 zhS9 zb9 ztk9' znew9 zsc9
    simp only [List.push_toArray, List.append_assoc, List.cons_append, List.nil_append] at N3
    refine exI4 (a4 := (ol, listOf (ws ++ [Value.str y t, Value.ref sc]).toArray (cw + 1 + 1)) :: (sgd, sgO h1 h2 h3 t1 t2 t3 rn .none) :: (hpd, hpO l1 l2 l3 u1 u2 u3 lim zl (k' + 1) tkk2) :: (ld, listOf vs.toArray c9) :: ((new2 ++ new) ++ rest)) ⟨rfl, F3, News.sub1 N3 ?_, ?_, ⟨⟨_, _, _, _, _, rfl, ?_, ?_, ?_, ?_, ?_, ?_⟩, ?_⟩⟩
    · k_extra "m sub"
    · refine List.forall_mem_cons.mpr ⟨i1, List.forall_mem_cons.mpr ⟨i2, List.forall_mem_cons.mpr ⟨i3, List.forall_mem_cons.mpr ⟨i4, forall_app (forall_app (above_ne hA e2) fun p hp => ?_) fun p hp => ?_⟩⟩⟩⟩
      · exact ho p (.tail _ (.tail _ (.tail _ (.tail _ (List.mem_append.mpr (.inl hp))))))
      · exact ho p (.tail _ (.tail _ (.tail _ (.tail _ (List.mem_append.mpr (.inr hp))))))
    · rw [List.take_add_one, hy]
      exact (hR.mono fun p hp => List.mem_append.mpr (.inr hp)).snoc (hS.mono fun p hp => List.mem_append.mpr (.inl hp))
    · exact forall_app (above_gt hA e4) d1
    · exact forall_app (above_gt hA e1) d2
    · exact forall_app (above_gt hA e3) d3
    · exact forall_app (above_gt hA e5) d4
    · exact forall_app (fun q hq p hp => Nat.lt_of_lt_of_le (allLt_mem e7 p hp) (hA q hq)) d5
    · intro z h1 h2
      first | rfl | (simp [h1]; done) | (simp_all; done)
  · rintro u nx h tk2 ⟨ws, cw, k', tkk, new, rfl, hR, d1, d2, d3, d4, d5⟩ F2 N2
    have hvl : vs.length = ((foundC cur).map (·.1)).length := by rw [List.length_map]; exact hln9
    rw [hvl, List.take_length] at hR
    k_unmd
    k_steps
    refine hret _ _ _ _ (by k_asm) (News.sub1 (by k_asm) ?_) ⟨ol, ws, cw, new, k', tkk, ol, rfl, rfl, hR, ⟨q1, q2, allLt_mem q3⟩, Nat.le_refl _, fun q hq => Nat.le_of_lt (d3 q hq)⟩
    k_extra "m sub"
theorem rs_exc : True := by
  w_top off
  trivial
/-! An exception class of the program's own with an __init__: its object is an entry of the ledger -/
noncomputable abbrev excO (C t : Addr) (d : Option Addr) : Obj := { cls := .ref C, dict := d, data := .fields #[.ref t, .none, .none, .none, .bool false, .none] }
theorem News.swap {h₀ h : Heap} {L : Addr} {a b : Addr × Obj} {l : Led} (N : News h₀ L h (a :: b :: l)) : News h₀ L h (b :: a :: l) := fun p hp => N p (by
  rcases List.mem_cons.mp hp with rfl | hp
  · exact .tail _ (.head _)
  · rcases List.mem_cons.mp hp with rfl | hp
    · exact .head _
    · exact .tail _ (.tail _ hp))
section
variable {prog : Program} {w : World} {A : Around} {R : Result → Shared → Prop} {h : Heap} {g : Array GenState} {d : Drawn} {t : Nat} {os : OsState}
variable {nm q : Str} {C N : Addr} {bs bm : List Value} {hdct : Bool} {sn : List Str} {sub : List Value} {ab : Bool} {col : Option Bool} {dd : Option Addr} {k0 k1 k2 k3 k5 : Option Value} {Bn newId inN : String} {bmN : List Value}
theorem xc_new (Fn : ExcBaseFacts Bn newId inN bmN) (hB : bm.contains (.type Bn) = true) (hA : bm.contains (.type "AttributeError") = false) (hN : bm.contains (.type "NameError") = false) {rest : List Value}
    (hC : h.get? C = some (excClassObj nm q C N bs bm hdct sn sub ab col dd k0 k1 k2 k3 k5 newId))
    (hq : R (.ok (.ret (.ref (h.objs.size + 1)))) ⟨(h.push (tupO rest)).push (excO C h.objs.size none), g, d, t, os⟩) (hrest : rest.length ≤ 1000) :
    codeAny (model prog w) A (.builtin newId ⟨.ref C :: rest, []⟩) R ⟨h, g, d, t, os⟩ := by
  have hends := Fn.ends
  have hz : rest.length ≤ sizeLine := by rw [sizeLine_eq]; omega
  have hcB : (Value.ref C :: bm).contains (.type Bn) = true := by rw [List.contains_cons, hB, Bool.or_true]
  have hcA : (Value.ref C :: bm).contains (.type "AttributeError") = false := by rw [List.contains_cons, hA]; rfl
  have hcN : (Value.ref C :: bm).contains (.type "NameError") = false := by rw [List.contains_cons, hN]; rfl
  refine codeAny_builtinAt Fn.entry ?_
  unfold Builtin.«BaseException.__new__»
  refine PySem.wpAt_bind ?_
  show PySem.wpAt _ _ _ (stack >>= _) _ _ _
  refine PySem.wpAt_bind (PySem.wpAt_stack fun p below => PySem.wpAt_of_wpAny ?_)
  wp_walk
  refine PySem.wpAt_of_wpAny ?_
  rw [Fn.owner]
  repeat (first | with_reducible refine wpAny_madeHere_exc Fn.canon hC ?_ | with_reducible refine wpAny_loadPart_at hC ?_ | (with_reducible refine wpAny_isSubtype_exc hC ?_; first | rw [hcB] | rw [hcA] | rw [hcN]) | wp_step)
  show R _ _
  rw [Heap.size_push]
  exact hq
end
section
variable {prog : Program} {w : World} {A : Around} {E : Value → Shared → Prop} {h : Heap} {g : Array GenState} {d : Drawn} {t : Nat} {os : OsState} {K : Frag}
variable {nm q : Str} {C N fI : Addr} {bs bm : List Value} {hdct : Bool} {sn : List Str} {sub : List Value} {ab : Bool} {col : Option Bool} {dd : Option Addr} {k0 k1 k2 k3 k5 : Option Value} {Bn newId inN : String} {bmN : List Value}
theorem xc_type_call (Fn : ExcBaseFacts Bn newId inN bmN) (hB : bm.contains (.type Bn) = true) (hA : bm.contains (.type "AttributeError") = false) (hN : bm.contains (.type "NameError") = false) {rest : List Value} {Q : Value → Shared → Prop}
    (X : K.In h) (hC : h.get? C = some (excClassObj nm q C N bs bm hdct sn sub ab col dd k0 k1 k2 k3 k5 newId)) (hi : findIn K (.ref C) "__init__" = some (some (.ref fI))) (hf : typeIn K (.ref fI) = some (.type "function")) (hrest : rest.length ≤ 1000)
    (hq : wpAny (model prog w) A (call (.ref fI) (.ref (h.objs.size + 1) :: rest)) (fun r s' => r = .none ∧ Q (.ref (h.objs.size + 1)) s') E ⟨(h.push (tupO rest)).push (excO C h.objs.size none), g, d, t, os⟩) :
    wpAny (model prog w) A (Builtin.«type.__call__» ⟨.ref C :: rest, []⟩) (fun f s' => ∃ v, f = .done (.ret v) ∧ Q v s') E ⟨h, g, d, t, os⟩ := by
  repeat (first | with_reducible refine wpAny_loadPart_at hC ?_ | with_reducible refine wpAny_madeBy_exc hC ?_ | wp_step)
  refine codeAny_call_builtin_code (Code.quiet_builtin _ Fn.quiet) (wpAny_check_new_subU Fn hB .base hC ?_)
  refine xc_new Fn hB hA hN hC ?_ hrest
  show wpAny _ _ _ _ _ _
  have k : ∀ b o, h.get? b = some o → ((h.push (tupO rest)).push (excO C h.objs.size none)).get? b = some o := fun b o e => Heap.get?_push_of_some _ (Heap.get?_push_of_some _ e)
  have hC₁ := k _ _ hC
  have X₁ : K.In ((h.push (tupO rest)).push (excO C h.objs.size none)) := fun a o e => k _ _ (X a o e)
  have hget : ((h.push (tupO rest)).push (excO C h.objs.size none)).get? (h.objs.size + 1) = some (excO C h.objs.size none) := by heap_get
  have hcC : (Value.ref C :: bm).contains (.ref C) = true := by simp
  unfold isInstance
  repeat (first | with_reducible refine wpAny_loadPart_at hget ?_ | (with_reducible refine wpAny_isSubtype_exc hC₁ ?_; rw [hcC]) | wp_step)
  refine (looks_findIn X₁ hi).here ?_
  refine wpAny_holding (wpAny_bind ((bind_fn X₁ _ hf).here ?_))
  refine wpAny_bind (wpAny_mono hq (fun r s' hr => ?_) fun _ _ x => x)
  obtain ⟨rfl, hr⟩ := hr
  exact wpAny_pure (wpAny_pure ⟨_, rfl, hr⟩)
theorem xc_call (Fn : ExcBaseFacts Bn newId inN bmN) (hB : bm.contains (.type Bn) = true) (hA : bm.contains (.type "AttributeError") = false) (hN : bm.contains (.type "NameError") = false) {rest : List Value} {Q : Value → Shared → Prop}
    (X : K.In h) (hC : h.get? C = some (excClassObj nm q C N bs bm hdct sn sub ab col dd k0 k1 k2 k3 k5 newId)) (hi : findIn K (.ref C) "__init__" = some (some (.ref fI))) (hf : typeIn K (.ref fI) = some (.type "function")) (hrest : rest.length ≤ 1000)
    (hq : wpAny (model prog w) (A.under (.builtin "type.__call__" ⟨.ref C :: rest, []⟩)) (call (.ref fI) (.ref (h.objs.size + 1) :: rest)) (fun r s' => r = .none ∧ Q (.ref (h.objs.size + 1)) s') E ⟨(h.push (tupO rest)).push (excO C h.objs.size none), g, d, t, os⟩) :
    wpAny (model prog w) A (call (.ref C) rest) Q E ⟨h, g, d, t, os⟩ := by
  have f1 := tc_lookup
  have f2 := tc_bind (.ref C)
  have hT : (⟨h, g, d, t, os⟩ : Shared).TypeIs (.ref C) "type" := ⟨_, hC, rfl⟩
  refine wpAny_call (codeAny_of_tree ?_)
  show wpAny _ _ (callAny (.ref C) _) _ _ _
  repeat (any_goals (first | assumption | with_reducible refine wpAny_loadPart_at hC ?_ | wp_step))
  refine ⟨rfl, ?_⟩
  refine codeAny_call_builtin_at (Code.quiet_builtin _ (by decide +kernel)) entry_typeCall (wpAny_check_type_call_sub hC (wpAny_mono (xc_type_call (E := E) (Q := Q) Fn hB hA hN X hC hi hf hrest ?_) (fun f s' hf => ?_) fun _ _ x => x))
  · exact hq
  · obtain ⟨v, rfl, hv⟩ := hf
    exact hv
end
section
variable {prog : Program} {w : World} {A : Around} {E : Value → Shared → Prop} {s : Shared} {h₀ : Heap} {L : Addr} {m : Str → Option Value} {news : Led} {K : Frag}
variable {nm q : Str} {C Na fI : Addr} {bs bm : List Value} {hdct : Bool} {sn : List Str} {sub : List Value} {ab : Bool} {col : Option Bool} {dd : Option Addr} {k0 k1 k2 k3 k5 : Option Value} {Bn newId inN : String} {bmN : List Value}
theorem xc_made (Fn : ExcBaseFacts Bn newId inN bmN) (F : Fr h₀ L s.heap m) (X : K.In h₀) (N : News h₀ L s.heap news) (hC : K.lookup C = some (excClassObj nm q C Na bs bm hdct sn sub ab col dd k0 k1 k2 k3 k5 newId))
    (hB : bm.contains (.type Bn) = true) (hA : bm.contains (.type "AttributeError") = false) (hN : bm.contains (.type "NameError") = false) {rest : List Value} {Q : Value → Shared → Prop}
    (hi : findIn K (.ref C) "__init__" = some (some (.ref fI))) (hf : typeIn K (.ref fI) = some (.type "function")) (hrest : rest.length ≤ 1000)
    (hq : ∀ e t h', Fr h₀ L h' m → News h₀ L h' ((e, excO C t none) :: (t, tupO rest) :: news) → (∀ p ∈ news, p.1 < t) → t < e →
      wpAny (model prog w) (A.under (.builtin "type.__call__" ⟨.ref C :: rest, []⟩)) (call (.ref fI) (.ref e :: rest)) (fun r s' => r = .none ∧ Q (.ref e) s') E { s with heap := h' }) :
    wpAny (model prog w) A (call (.ref C) rest) Q E s := by
  obtain ⟨hh, g, d, t, os⟩ := s
  have N' := (N.push F (tupO rest)).push (F.push _) (excO C hh.objs.size none)
  rw [Heap.size_push] at N'
  exact xc_call Fn hB hA hN (X.keeps F.keep) (F.keep _ _ (X _ _ hC)) hi hf hrest (hq _ _ _ ((F.push _).push _) N' (fun p hp => Heap.lt_size (N p hp).1) (Nat.lt_succ_self _))
theorem xc_init {B nid initId : String} {bmB : List Value} {e t0 : Addr} {od : Option Addr} {rest : List Value} {Q : Value → Shared → Prop} (Fb : ExcBaseFacts B nid initId bmB) (F : Fr h₀ L s.heap m) (X : K.In h₀) (N : News h₀ L s.heap ((e, excO C t0 od) :: news))
    (hC : K.lookup C = some (excClassObj nm q C Na bs bm hdct sn sub ab col dd k0 k1 k2 k3 k5 newId)) (hB : bm.contains (.type B) = true) (hne : ∀ p ∈ news, p.1 ≠ e) (hrest : rest.length ≤ 1000)
    (h : ∀ t h', Fr h₀ L h' m → News h₀ L h' ((e, excO C t od) :: (t, tupO rest) :: news) → (∀ p ∈ news, p.1 < t) → e < t → Q .none { s with heap := h' }) :
    wpAny (model prog w) A (call (.builtin initId) (.ref e :: rest)) Q E s := by
  obtain ⟨hh, g, d, t, os⟩ := s
  have hz : rest.length ≤ sizeLine := by rw [sizeLine_eq]; omega
  have he := (N _ (.head _)).1
  have hCh := F.keep _ _ (X _ _ hC)
  have hcB : (Value.ref C :: bm).contains (.type B) = true := by rw [List.contains_cons, hB, Bool.or_true]
  have hshort := Fb.noStar
  refine wpAny_call (codeAny_call_builtin Fb.init.plain Fb.initEntry ?_)
  simp only [checkBuiltinCall, Fb.initKind, Fb.initSplit, Fb.initRow]
  repeat (first | (with_reducible refine wpAny_loadPart_at he ?_) | with_reducible refine wpAny_loadPart_at hCh ?_ | (with_reducible refine wpAny_isSubtype_exc hCh ?_; rw [hcB]) | wp_step)
  refine wpAny_onRaise ?_
  rw [show ∀ (a b : String) (n : Nat), Bind.check ⟨.positional, "*", B, .self, [⟨"args", .varPos, false⟩]⟩ a b n (List.map (fun x => x.fst) ([] : List (Str × Value))) = pure () from fun a b n => check_star_args _ _ _ _ _ _]
  refine wpAny_pure ?_
  wp_walk
  have FP := F.push (tupO rest)
  have NP := N.push F (tupO rest)
  have hlt := Heap.lt_size he
  obtain ⟨U1, U2⟩ := news_upd (pre := [(hh.objs.size, tupO rest)]) (post := news) (d := e) (o' := excO C hh.objs.size od) (f := Obj.mapFields (·.setIfInBounds 0 (Value.ref hh.objs.size))) FP NP
    (fun p hp => by rw [List.mem_singleton.mp hp]; exact Nat.ne_of_gt hlt) hne rfl rfl
  exact h _ _ U1 (fun p hp => U2 p (by simp only [List.cons_append, List.nil_append, List.mem_cons] at hp ⊢; rcases hp with h | h | h <;> simp [h])) (fun p hp => Heap.lt_size (N p (.tail _ hp)).1) hlt
theorem xc_store {dx : Addr} {es es' : List DictEntry} {n n' : Nat} {pre post : Led} {name : Str} {tk : Tok} {v : Value} {Q : Fin → Shared → Prop} (F : Fr h₀ L s.heap m) (N : News h₀ L s.heap (pre ++ (dx, dictOf es n) :: post))
    (hl : (getL name es).isSome = true) (h1 : ∀ p ∈ pre, p.1 ≠ dx) (h2 : ∀ p ∈ post, p.1 ≠ dx) (e : (putL name (PyData.keyHash w.params name) (.str name s.toks) v es, putN name es n) = (es', n')) (hz : es'.length ≤ 1000)
    (h : ∀ h', Fr h₀ L h' m → News h₀ L h' (pre ++ (dx, dictOf es' n') :: post) → Q (.done (.ret .none)) { s with heap := h', toks := s.toks + 1 }) :
    wpAny (model prog w) A (Builtin.ObjectAttr.storeInDict dx (.str name tk) name v) Q E s := by
  obtain ⟨e1, e2⟩ := Prod.mk.inj e
  obtain ⟨U1, U2⟩ := news_upd (f := Obj.putName name (PyData.keyHash w.params name) (.str name s.toks) v) F N h1 h2 (by rw [putName_dict, e1, e2]) rfl
  have D := (N (dx, dictOf es n) (by simp)).1
  have D' := (U2 (dx, dictOf es' n') (by simp)).1
  refine wpAny_bind (wpAny_pure (wpAny_bind ?_))
  unfold nsSet
  refine wpAny_bind (wpAny_bind (wpAny_askSetting (wpAny_pure (wpAny_bind (wpAny_mkText (wpAny_bind (wpAny_loadPart D ?_)))))))
  dsimp only [dictOf]
  have c : (!es.toArray.any (·.key.isStr name) && es.toArray.any (·.refKey)) = false := by
    rw [← Array.any_toList, ← Array.any_toList]
    unfold getL at hl
    split at hl
    · rename_i en he
      rw [List.any_eq_true.mpr ⟨en, List.mem_of_find?_eq_some he, List.find?_some he⟩]; rfl
    · split at hl
      · cases hl
      · rename_i z; rw [Bool.not_eq_true] at z; rw [z, Bool.and_false]
  rw [aRefKeyMayBeTheName_at, c]
  refine wpAny_updatePart D ?_
  refine wpAny_bind (wpAny_lookBehind D' (pastItsLine_dict (by rw [List.size_toArray, sizeLine_eq]; omega)) ?_)
  exact wpAny_pure (h _ U1 U2)
end
section
variable {prog : Program} {w : World} {A : Around} {E : Value → Shared → Prop} {s : Shared} {h₀ : Heap} {L : Addr} {m : Str → Option Value} {news : Led} {K : Frag}
variable {nm q : Str} {C Na : Addr} {bs bm : List Value} {sn : List Str} {sub : List Value} {ab : Bool} {col : Option Bool} {dd : Option Addr} {k0 k1 k2 k3 k5 : Option Value} {newId : String}
theorem xc_osa {h : Heap} {g : Array GenState} {d : Drawn} {t : Nat} {os : OsState} {e t0 : Addr} {od : Option Addr} {oo : Option Obj} {name : Str} {v : Value} {Q : Unit → Shared → Prop} (X : K.In h) (I : InstAt h e (excO C t0 od) C oo)
    (hC : K.lookup C = some (excClassObj nm q C Na bs bm true sn sub ab col dd k0 k1 k2 k3 k5 newId)) (hb : bm.contains (.type "object") = true)
    (hs : findIn K (.ref C) "__setattr__" = some (some (.builtin "object.__setattr__"))) (ha : findIn K (.ref C) name = some none) (hp : ∀ self, refuseLoop self "__setattr__" (.ref C :: bm) = pure ())
    (hq : wpAny (model prog w) A.in1 (Builtin.ObjectAttr.storeInOwnDict (.ref e) (.ref C) (.str name t) name v false)
      (fun f s' => f = .done (.ret .none) ∧ Q () s') E ⟨h, g, d, t + 1, os⟩) :
    wpAny (model prog w) A (setAttr (.ref e) name v) Q E ⟨h, g, d, t, os⟩ := by
  have SF := PySem.F.store_object
  have hCh := X _ _ hC
  have hm : Looks (model prog w) h (mroOf (.ref C)) (.ref C :: bm) := ((Looks.ld (part := none) hCh).andThen .now).andThen .now
  have sub : Looks (model prog w) h (isInstance (.ref e) (.type "object")) true := I.type.andThen (hm.andThen (Looks.of_pure (by rw [List.contains_cons, hb, Bool.or_true]; rfl)))
  refine set_plain X I hs ?_
  refine codeAny_call_builtin SF.slot.plain SF.entry (@check_slot (model prog w) _ _ ⟨h, g, d, t + 1, os⟩ "object.__setattr__" "object" "__setattr__" (.ref e) [.str name t, v] [] _ SF.kind SF.split sub (SF.args (.ref e) (.str name t) v) ?_)
  rw [osa_eq, refuse_eq]
  refine wpAny_bind (wpAny_bind (I.type.here (wpAny_bind (hm.here ?_))))
  rw [hp]
  refine wpAny_pure (wpAny_bind (I.type.here (wpAny_bind ((looks_findIn X ha).here (wpAny_bind ((Looks.now (M := model prog w) (h := h)).here ?_))))))
  refine wpAny_mono hq (fun f s' hf => ?_) fun _ _ x => x
  obtain ⟨rfl, hf⟩ := hf
  exact hf
theorem xc_set_new {e t0 : Addr} {name : Str} {v : Value} {Q : Unit → Shared → Prop} (F : Fr h₀ L s.heap m) (X : K.In h₀) (N : News h₀ L s.heap ((e, excO C t0 none) :: news)) (hne : ∀ p ∈ news, p.1 ≠ e)
    (hC : K.lookup C = some (excClassObj nm q C Na bs bm true sn sub ab col dd k0 k1 k2 k3 k5 newId)) (hb : bm.contains (.type "object") = true)
    (hs : findIn K (.ref C) "__setattr__" = some (some (.builtin "object.__setattr__"))) (ha : findIn K (.ref C) name = some none) (hp : ∀ self, refuseLoop self "__setattr__" (.ref C :: bm) = pure ())
    (h : ∀ d h', Fr h₀ L h' m → News h₀ L h' ((e, excO C t0 (some d)) :: (d, dictOf [⟨PyData.keyHash w.params name, .str name (s.toks + 1), v⟩] 1) :: news) → (∀ p ∈ news, p.1 < d) → e < d → Q () { s with heap := h', toks := s.toks + 2 }) :
    wpAny (model prog w) A (setAttr (.ref e) name v) Q E s := by
  obtain ⟨hh, g, d, t, os⟩ := s
  have he := (N _ (.head _)).1
  have hCh := F.keep _ _ (X _ _ hC)
  have hlt := Heap.lt_size he
  refine xc_osa (oo := none) (X.keeps F.keep) ⟨he, rfl, rfl, trivial⟩ hC hb hs ha hp ?_
  have FP := F.push (dictOf [] 0)
  have NP := N.push F (dictOf [] 0)
  obtain ⟨U1, U2⟩ := news_upd (pre := [(hh.objs.size, dictOf [] 0)]) (post := news) (d := e) (o' := excO C t0 (some hh.objs.size)) (f := fun o => { o with dict := some hh.objs.size }) FP NP
    (fun p hp => by rw [List.mem_singleton.mp hp]; exact Nat.ne_of_gt hlt) hne rfl rfl
  have hePush : (hh.push (dictOf [] 0)).get? e = some (excO C t0 none) := Heap.get?_push_of_some _ he
  have hid : wpAny (model prog w) A.in1 (instanceDict e true) (fun r s' => r = some hh.objs.size ∧ s' = ⟨(hh.push (dictOf [] 0)).update e fun o => { o with dict := some hh.objs.size }, g, d, t + 1, os⟩) E ⟨hh, g, d, t + 1, os⟩ := by
    unfold instanceDict classData
    repeat (first | with_reducible refine wpAny_loadPart_at he ?_ | with_reducible refine wpAny_loadPart_at hCh ?_ | wp_step)
    exact ⟨rfl, rfl⟩
  refine wpAny_bind (wpAny_pure (wpAny_bind (wpAny_mono hid (fun r s' hr => ?_) fun _ _ x => x)))
  obtain ⟨rfl, rfl⟩ := hr
  refine xc_store (pre := []) (post := (e, excO C t0 (some hh.objs.size)) :: news) (es := []) (n := 0) U1 U2 rfl (fun _ h => nomatch h) (fun p hp => ?_) rfl (Nat.le_of_ble_eq_true rfl) fun h' F' N' => ⟨rfl, ?_⟩
  · rcases List.mem_cons.mp hp with rfl | hp
    · exact Nat.ne_of_lt hlt
    · exact Nat.ne_of_lt (Heap.lt_size (N p (.tail _ hp)).1)
  · exact h _ _ F' (News.swap N') (fun p hp => Heap.lt_size (N p (.tail _ hp)).1) hlt
theorem xc_set_old {e t0 dx : Addr} {name : Str} {v : Value} {es es' : List DictEntry} {n n' : Nat} {Q : Unit → Shared → Prop} (F : Fr h₀ L s.heap m) (X : K.In h₀) (N₂ : News h₀ L s.heap ((dx, dictOf es n) :: (e, excO C t0 (some dx)) :: news)) (hne : ∀ p ∈ news, p.1 ≠ dx) (hed : e ≠ dx)
    (hC : K.lookup C = some (excClassObj nm q C Na bs bm true sn sub ab col dd k0 k1 k2 k3 k5 newId)) (hb : bm.contains (.type "object") = true)
    (hs : findIn K (.ref C) "__setattr__" = some (some (.builtin "object.__setattr__"))) (ha : findIn K (.ref C) name = some none) (hp : ∀ self, refuseLoop self "__setattr__" (.ref C :: bm) = pure ())
    (hl : (getL name es).isSome = true) (ee : (putL name (PyData.keyHash w.params name) (.str name (s.toks + 1)) v es, putN name es n) = (es', n')) (hz : es'.length ≤ 1000)
    (h : ∀ h', Fr h₀ L h' m → News h₀ L h' ((e, excO C t0 (some dx)) :: (dx, dictOf es' n') :: news) → Q () { s with heap := h', toks := s.toks + 2 }) :
    wpAny (model prog w) A (setAttr (.ref e) name v) Q E s := by
  obtain ⟨hh, g, d, t, os⟩ := s
  have N := News.swap N₂
  have he := (N _ (.head _)).1
  have hCh := F.keep _ _ (X _ _ hC)
  refine xc_osa (oo := some (dictOf es n)) (X.keeps F.keep) ⟨he, rfl, rfl, (N _ (.tail _ (.head _))).1⟩ hC hb hs ha hp ?_
  have hid : wpAny (model prog w) A.in1 (instanceDict e true) (fun r s' => r = some dx ∧ s' = ⟨hh, g, d, t + 1, os⟩) E ⟨hh, g, d, t + 1, os⟩ := by
    unfold instanceDict classData
    repeat (first | with_reducible refine wpAny_loadPart_at he ?_ | with_reducible refine wpAny_loadPart_at hCh ?_ | wp_step)
    exact ⟨rfl, rfl⟩
  refine wpAny_bind (wpAny_pure (wpAny_bind (wpAny_mono hid (fun r s' hr => ?_) fun _ _ x => x)))
  obtain ⟨rfl, rfl⟩ := hr
  exact xc_store (pre := [(e, excO C t0 (some dx))]) (post := news) F N hl (fun p hp => by rw [List.mem_singleton.mp hp]; exact hed) hne ee hz fun h' F' N' => ⟨rfl, h _ F' N'⟩
end
/-- the raise statement stands over such an object -/
def RaisableD (K : Frag) (C : Addr) (E : Value → Shared → Prop) (v : Value) (s₁ : Shared) : Prop :=
  ∃ e t d, v = .ref e ∧ s₁.heap.get? e = some (excO C t d) ∧ K.In s₁.heap ∧ E (.ref e) s₁
section
variable {prog : Program} {w : World} {A : Around} {E : Value → Shared → Prop} {s : Shared} {env : Env} {K : Frag}
variable {nm q : Str} {C Na : Addr} {bs bm : List Value} {hdct : Bool} {sn : List Str} {sub : List Value} {ab : Bool} {col : Option Bool} {dd : Option Addr} {k0 k1 k2 k3 k5 : Option Value} {newId : String}
theorem Raise_xc {x : PySem.Expr} {pos : Pos} {h₀ : Heap} {Q : Flow → Shared → Prop} (_ : K.In h₀) (hC : K.lookup C = some (excClassObj nm q C Na bs bm hdct sn sub ab col dd k0 k1 k2 k3 k5 newId)) (hb : bm.contains (.type "BaseException") = true) (hh : A.handled = none)
    (h : wpAny (model prog w) A (eval x env) (RaisableD K C E) E s) : wpAny (model prog w) A (exec (.Raise (some x) none pos) env) Q E s := by
  have hcB : (Value.ref C :: bm).contains (.type "BaseException") = true := by rw [List.contains_cons, hb, Bool.or_true]
  show wpAny _ A (do standAt pos; raiseStmt env (some (do let v ← eval x env; standAt pos; pure v)) none) Q E s
  refine wpAny_bind (wpAny_standAt ?_)
  unfold raiseStmt
  dsimp only
  refine wpAny_bind (wpAny_bind (wpAny_mono h (fun v s₁ h₁ => wpAny_bind (wpAny_standAt (wpAny_pure ?_))) fun _ _ x => x))
  obtain ⟨e, t, d, rfl, he, X, hE⟩ := h₁
  have hCh := X _ _ hC
  obtain ⟨hp, g, dr, tk, os⟩ := s₁
  repeat (first | with_reducible refine wpAny_loadPart_at he ?_ | with_reducible refine wpAny_loadPart_at hCh ?_ | (with_reducible refine wpAny_isSubtype_exc hCh ?_; rw [hcB]) | wp_step)
  exact wpAny_raiseNew_none hh hE
end
section
variable {M : Model} {A : Around} {E : Value → Shared → Prop} {s' : Shared} {base g : Heap} {outer : List Env} {L a e t : Addr} {m : Str → Option Value} {name : Str} {scope : Scope} {cd : Value} {Q : Unit → Shared → Prop} {news : Led}
theorem leave_raiseD {C : Addr} {d : Option Addr} {vs : List Value} (K : Below A base outer g) (F : Fr g L s'.heap m) (N : News g L s'.heap ((e, excO C t d) :: (t, tupO vs) :: news)) (hne : ∀ q ∈ news, q.1 ≠ e ∧ q.1 ≠ t)
    (hQ : ∀ h', RaisedS base g outer e (.ref C) t vs news h' → RaisedK base outer e (.ref C) t vs news h' → g.UpToSlots h' → Q () { s' with heap := h' }) (hk : scope.kind = .function) :
    wpAny M (A.deeper (envOf name scope L a cd)) (leaving (envOf name scope L a cd) (.ref e)) Q E s' := by
  have K' := K.push (name := name) (a := a) (cd := cd) F hk
  have Ne := N _ (.head _)
  have Nt := N _ (.tail _ (.head _))
  have hin : ∀ env ∈ (envOf name scope L a cd :: outer), ∀ b, env.frame = some b → b ∈ e :: t :: (envOf name scope L a cd :: outer).filterMap (·.frame) := fun env he b hb => .tail _ (.tail _ (List.mem_filterMap.mpr ⟨env, he, hb⟩))
  have be := fresh_of_stays K.stays Ne.2.2
  have bt := fresh_of_stays K.stays Nt.2.2
  have st : base.StaysIn (hideAll s'.heap (e :: t :: (envOf name scope L a cd :: outer).filterMap (·.frame))) := fun b o q => hideAll_get _ (K'.stays b o q) fun hm => by
    rcases List.mem_cons.mp hm with rfl | hm
    · rw [be] at q; cases q
    · rcases List.mem_cons.mp hm with rfl | hm
      · rw [bt] at q; cases q
      · rw [(K'.frames.mem hm).1] at q; cases q
  have hl : ∀ q ∈ news, (hideAll s'.heap (e :: t :: (envOf name scope L a cd :: outer).filterMap (·.frame))).get? q.1 = some q.2 ∧ base.get? q.1 = none := fun q hq => by
    have Nq := N q (.tail _ (.tail _ hq))
    refine ⟨hideAll_get _ Nq.1 fun hm => ?_, fresh_of_stays K.stays Nq.2.2⟩
    rcases List.mem_cons.mp hm with h | hm
    · exact (hne q hq).1 h
    · rcases List.mem_cons.mp hm with h | hm
      · exact (hne q hq).2 h
      · obtain ⟨env, he, hf⟩ := List.mem_filterMap.mp hm
        rcases List.mem_cons.mp he with rfl | he
        · exact Nq.2.1 (Option.some.inj hf).symm
        · obtain ⟨o, ho, _⟩ := (K.frames.mem (List.mem_filterMap.mpr ⟨env, he, hf⟩)).2
          rw [Nq.2.2] at ho; cases ho
  refine wpAny_leaving_firstW (a0 := .ref t) K'.stack (funFrames_hide K'.frames hin) rfl Ne.1 (fun b o q => of_hideAll _ q) (hideAll_none _ (.head _)) rfl rfl rfl fun h' hL => ?_
  obtain ⟨k1, ⟨_, _, k2⟩, k3, k4⟩ := hL
  have sg : ∀ b o, g.get? b = some o → b ∉ outer.filterMap (·.frame) → (hideAll s'.heap (e :: t :: (envOf name scope L a cd :: outer).filterMap (·.frame))).get? b = some o := fun b o q nm => hideAll_get _ (F.keep b o q) fun hm => by
    rcases List.mem_cons.mp hm with rfl | hm
    · rw [Ne.2.2] at q; cases q
    · rcases List.mem_cons.mp hm with rfl | hm
      · rw [Nt.2.2] at q; cases q
      · rcases kts_mem hm with z | z
        · rw [z, kts_self F] at q; cases q
        · exact nm z
  have R : RaisedS base g outer e (.ref C) t vs news h' := ⟨⟨_, st, sg, fun q hq => ⟨(hl q hq).1, (N q (.tail _ (.tail _ hq))).2.2, (hl q hq).2⟩, ⟨k1, hideAll_none _ (.head _), k2, k3⟩, hideAll_none _ (.tail _ (.head _))⟩, Heap.TupAt.of_slots ⟨_, _, Nt.1, rfl, rfl⟩ k4⟩
  exact hQ h' R R.toK ((Heap.UpToSlots.of_keeps F.keep).trans k4)
end
theorem kw6_all : True := by
  k_with "all" => (refine List.forall_mem_cons.mpr ⟨?_, ?_⟩; (focus (dsimp only; first | assumption | (apply Nat.ne_of_lt; assumption) | (apply Nat.ne_of_gt; assumption))); k_all)
  trivial
theorem rs_turn : True := by
  w_top off
  trivial
/-! A call whose ground turns: what is raised and caught below gives the frames above new slots -/
noncomputable abbrev frs (l : List Env) : List Addr := l.filterMap (·.frame)
theorem mem_frs {env : Env} {outer : List Env} {L b : Addr} (hf : env.frame = some L) (hm : b ∈ frs (env :: outer)) : b = L ∨ b ∈ frs outer := by
  obtain ⟨e, he, hb⟩ := List.mem_filterMap.mp hm
  rcases List.mem_cons.mp he with rfl | he
  · exact .inl (Option.some.inj (hf.symm.trans hb)).symm
  · exact .inr (List.mem_filterMap.mpr ⟨e, he, hb⟩)
section
variable {A₀ A : Around} {s : Shared} {base h₀ g₀ : Heap} {outer : List Env} {L : Addr} {m : Str → Option Value} {env : Env} {news : Led} {K : Frag} {R : Result → Shared → Prop}
  {p : Program} {loose : List Str} {mean : ExcName → Option Value} {mg mb : Str → Option Value}
theorem turnX (B : Below A₀ base outer h₀) (F : Fr h₀ L s.heap m) (N : News h₀ L s.heap news) (hA : A.frames = some (env :: outer)) (hf : env.frame = some L) (hke : env.scope.kind = .function)
    (XB : K.In base) (TB : Top p loose mean mg mb base) (D : KtsDicts (frs outer) h₀) (T0 : KtsTurn (frs outer) g₀ h₀) :
    Fr h₀ L (hideAll s.heap (news.map (·.1))) m ∧ Below A base (env :: outer) (hideAll s.heap (news.map (·.1))) ∧ h₀.StaysIn (hideAll s.heap (news.map (·.1))) ∧ KtsDicts (frs (env :: outer)) (hideAll s.heap (news.map (·.1))) ∧
      ∀ v s', LeaveS (frs (env :: outer)) A₀ base outer K p loose mean mg mb g₀ h₀ L m (hideAll s.heap (news.map (·.1))) R v s' → R (.ok (.ret v)) s' := by
  obtain ⟨FG, BG, st, lv⟩ := groundX (R := R) B F N hA hf hke
  have nL₀ : h₀.get? L = none := kts_self F
  obtain ⟨oL, es, ep, hL, hLd, hLk, hLf⟩ := F.ns
  have nL : L ∉ news.map (·.1) := fun q => by
    obtain ⟨x, hp, e⟩ := List.mem_map.mp q
    exact (N x hp).2.1 e
  have hLg := hideAll_get (news.map (·.1)) hL nL
  refine ⟨FG, BG, st, fun b hb => ?_, fun v s' hl => ?_⟩
  · rcases mem_frs hf hb with rfl | hb
    · exact ⟨oL, es, ep, hLg, hLd⟩
    · obtain ⟨o, es', n', ho', hd'⟩ := D b hb
      exact ⟨o, es', n', st b o ho', hd'⟩
  rcases hl with hl | ⟨g', L', m', news', T', F', N', k⟩
  · exact lv v s' hl
  obtain ⟨sl, hs⟩ := T'.up hLg
  obtain ⟨T₁, S₁⟩ := kts_turn_at (h := s'.heap) (fs := frs outer) (g := h₀)
    (fun b hb => by
      obtain ⟨_, o, ho', _⟩ := B.frames.mem hb
      exact ⟨o, ho'⟩)
    (fun b o e nmem => F'.keep b o (T'.other b o (st b o e) (fun q => by
      rcases mem_frs hf q with z | z
      · rw [z, nL₀] at e
        cases e
      · exact nmem z)))
    (fun b o e hm => by
      obtain ⟨sl', hs'⟩ := T'.up (st b o e)
      exact ⟨sl', F'.keep _ _ hs'⟩)
  have B₃ : Below A₀ base outer (ktsHeap s'.heap (frs outer) h₀) := ⟨B.stack, fun b o e => T₁.other b o (B.stays b o e) (fun hm => by
    rw [(B.frames.mem hm).1] at e
    cases e), B.frames.of_keeps fun b o e _ => by
    obtain ⟨sl', hs'⟩ := T₁.up e
    exact ⟨_, hs', rfl⟩⟩
  refine k _ (T0.trans T₁) ⟨⟨_, es, ep, F'.keep _ _ hs, hLd, hLk, hLf⟩, S₁, by rw [T₁.size]; exact F.above⟩ (fun q hq => ⟨(N' q hq).1, fun z => ?_, ?_⟩) B₃ (XB.keeps B₃.stays) (TB.keeps B₃.stays) (D.turn T₁)
  · have := (N' q hq).2.2; rw [z, hs] at this; cases this
  · refine T₁.none_ _ ?_
    cases z : h₀.get? q.1 with
    | none => rfl
    | some o =>
      obtain ⟨sl', hs'⟩ := T'.up (st _ _ z)
      have := (N' q hq).2.2
      rw [hs'] at this
      cases this
end
section
variable {prog : Program} {w : World} {A₀ A : Around} {s : Shared} {base h₀ g₀ : Heap} {env : Env} {outer : List Env} {L : Addr} {m : Str → Option Value} {news : Led} {K : Frag} {p : Program} {loose : List Str} {mean : ExcName → Option Value} {mg mb : Str → Option Value}
    {R : Result → Shared → Prop} {name qual : Str} {params : Arguments} {body : List Stmt} {scope : Scope} {dV kV doc pm cdv ct oc : Value} {an od : Option Addr} {osl : Array (Option Value)} {f : Addr} {args : Args} {binds : List (Str × Value)}
theorem code_T (B : Below A₀ base outer h₀) (F : Fr h₀ L s.heap m) (X₀ : K.In h₀) (N : News h₀ L s.heap news) (T : Top p loose mean mg mb h₀) (XB : K.In base) (TB : Top p loose mean mg mb base) (D : KtsDicts (frs outer) h₀)
    (T0 : KtsTurn (frs outer) g₀ h₀) (hA : A.frames = some (env :: outer)) (hf : env.frame = some L) (hke : env.scope.kind = .function)
    (ho : K.lookup f = some ⟨oc, od, .func (fnOf name qual params body scope dV kV doc pm an cdv ct), osl⟩) (hcd : codeIn K cdv qual = true) (hroom : A.depth < recursionLimit)
    (hbind : BindsTo s (fnOf name qual params body scope dV kV doc pm an cdv ct) args binds) (hloc : ∀ y ∈ binds, scope.names.lookup y.1 = some .local)
    (h : ∀ g L' h₁, Fr h₀ L g m → Fr g L' h₁ (fun y => binds.reverse.lookup y) → News g L' h₁ news → Below A base (env :: outer) g → K.In g → Top p loose mean mg mb g → KtsDicts (frs (env :: outer)) g →
      wpAny (model prog w) (A.deeper (envOf qual scope L' f cdv)) (execs body (envOf qual scope L' f cdv))
        (fun fl s' => LeaveS (frs (env :: outer)) A₀ base outer K p loose mean mg mb g₀ h₀ L m g R (match fl with | .ret v => v | _ => .none) s')
        (fun e s' => wpAny (model prog w) (A.deeper (envOf qual scope L' f cdv)) (leaving (envOf qual scope L' f cdv) e) (fun _ s'' => R (.error e) s'') (fun e' s'' => R (.error e') s'') s')
        { s with heap := h₁, toks := s.toks + binds.length })
    (hco : scope.isCoroutine = false) (hgen : scope.isGenerator = false) (hk : scope.kind = .function)
    (hcell : ∀ x ∈ scope.names, x.2 ≠ .cell) : codeAny (model prog w) A (.call (.ref f) args) R s := by
  have X := X₀.keeps F.keep
  obtain ⟨FG, BG, st, DG, lv⟩ := turnX (R := R) B F N hA hf hke XB TB D T0
  refine codeAny_call_def (fd := fnOf name qual params body scope dV kV doc pm an cdv ct) (body := body) (binds := binds) hroom (X _ _ ho) rfl (T.nolimit.keeps F.keep) (codeRec_of X hcd) rfl hbind hcell hloc (fun h₁ hns hk₁ => ?_) hco hgen hk
  exact wpAny_mono (h _ s.heap.objs.size h₁ FG ⟨hns, fun b o e => hk₁ b o (of_hideAll _ e), Nat.le_of_eq (hideAll_size _ _)⟩
    (fun q hq => ⟨hk₁ _ _ (N q hq).1, Nat.ne_of_lt (Heap.lt_size (N q hq).1), hideAll_none _ (List.mem_map_of_mem hq)⟩) BG (X₀.keeps st) (T.keeps st) DG) (fun fl s' hl => lv _ _ hl) fun _ _ y => y
theorem code_TC (B : Below A₀ base outer h₀) (F : Fr h₀ L s.heap m) (X₀ : K.In h₀) (N : News h₀ L s.heap news) (T : Top p loose mean mg mb h₀) (XB : K.In base) (TB : Top p loose mean mg mb base) (D : KtsDicts (frs outer) h₀)
    (T0 : KtsTurn (frs outer) g₀ h₀) (hA : A.frames = some (env :: outer)) (hf : env.frame = some L) (hke : env.scope.kind = .function)
    (ho : K.lookup f = some ⟨oc, od, .func (fnOf name qual params body scope dV kV doc pm an cdv ct), osl⟩) (hcd : codeIn K cdv qual = true) (hroom : A.depth < recursionLimit)
    (hbind : BindsTo s (fnOf name qual params body scope dV kV doc pm an cdv ct) args binds) (hkind : (binds.all fun y => scope.names.lookup y.1 == some .local || scope.names.lookup y.1 == some .cell) = true)
    (hnd : ((cellsFrom 0 scope.names []).map (·.1)).Nodup)
    (h : ∀ g L' h₁ tk cells, Fr h₀ L g m → Fr g L' h₁ (bindL (envOfC qual scope L' f cdv).kindOf binds fun _ => none) → News g L' h₁ (cells ++ news) →
      CellsAre (bindC (envOfC qual scope L' f cdv).kindOf binds fun _ => none) (cellsFrom (L' + 1) scope.names []) cells → Below A base (env :: outer) g → K.In g → Top p loose mean mg mb g → KtsDicts (frs (env :: outer)) g → (∀ q ∈ news, q.1 < L') →
      wpAny (model prog w) (A.deeper (envOfC qual scope L' f cdv)) (execs body (envOfC qual scope L' f cdv))
        (fun fl s' => LeaveS (frs (env :: outer)) A₀ base outer K p loose mean mg mb g₀ h₀ L m g R (match fl with | .ret v => v | _ => .none) s')
        (fun e s' => wpAny (model prog w) (A.deeper (envOfC qual scope L' f cdv)) (leaving (envOfC qual scope L' f cdv) e) (fun _ s'' => R (.error e) s'') (fun e' s'' => R (.error e') s'') s')
        { s with heap := h₁, toks := tk })
    (hco : scope.isCoroutine = false) (hgen : scope.isGenerator = false) (hk : scope.kind = .function) : codeAny (model prog w) A (.call (.ref f) args) R s := by
  have X := X₀.keeps F.keep
  obtain ⟨FG, BG, st, DG, lv⟩ := turnX (R := R) B F N hA hf hke XB TB D T0
  refine codeAny_call_function hroom (X _ _ ho) (fd := fnX name qual params body scope [] dV kV doc pm an cdv ct) rfl hco hgen rfl (codeRec_of X hcd) (hbind _ _ _ _ ?_)
  refine wpAny_newFunctionEnv_cells hk (kindsX hkind _) fun env' he s' x => ?_
  subst he
  refine ⟨(T.nolimit.keeps F.keep).keeps x.toInCall.keep, codeAny_func ?_⟩
  obtain ⟨h₁, tk, rfl, _⟩ := x.done
  have hk₁ := x.toInCall.keep
  obtain ⟨cells, NC, Y⟩ := Cl.news (h₀ := s.heap) (Nat.le_refl _) fun n c hm => ⟨x.cell n c (lookup_of_mem_nodup (cellsFrom_names scope.names 0 (s.heap.objs.size + 1) [] [] rfl ▸ hnd) hm), x.above n c hm⟩
  refine wpAny_mono (h _ s.heap.objs.size h₁ tk cells FG ⟨x.toInCall.ns, fun b o e => hk₁ b o (of_hideAll _ e), Nat.le_of_eq (hideAll_size _ _)⟩ (fun q hq => ?_) Y BG (X₀.keeps st) (T.keeps st) DG (fun q hq => Heap.lt_size (N q hq).1)) (fun fl s' hl => lv _ _ hl) fun _ _ y => y
  rcases List.mem_append.mp hq with hq | hq
  · refine ⟨(NC q hq).1, (NC q hq).2.1, ?_⟩
    cases z : (hideAll s.heap (news.map (·.1))).get? q.1 with
    | none => rfl
    | some o => have := of_hideAll _ z; rw [(NC q hq).2.2] at this; cases this
  · exact ⟨hk₁ _ _ (N q hq).1, Nat.ne_of_lt (Heap.lt_size (N q hq).1), hideAll_none _ (List.mem_map_of_mem hq)⟩
end
/-- as Spec, but the ground may turn -/
def SpecT (w : World) (f : Addr) (vs : List Value) (news : Led) (D : Nat) (Post : Value → Led → Prop) : Prop :=
  ∀ (dp un : Nat) (gd : Option (List Code)) (cn : Str) (cs : Scope) (a : Addr) (ccd : Value) (cl : List (Str × Addr)) (outer : List Env) (A₀ : Around) (base h₀ : Heap) (L : Addr) (m : Str → Option Value) (s : Shared)
    (mean : ExcName → Option Value) (mg mb : Str → Option Value) (Q E : Value → Shared → Prop),
    Below A₀ base outer h₀ → Fr h₀ L s.heap m → (Mine.k.heap_1 w.params).In h₀ → News h₀ L s.heap news → Top Mine.k.view_1 LO mean mg mb h₀ → (Mine.k.heap_1 w.params).In base → Top Mine.k.view_1 LO mean mg mb base → KtsDicts (frs outer) h₀ →
    cs.kind = .function → dp + D < recursionLimit → un + 8 * D + 200 < cLine →
    (∀ r news' h' tk' h₁, KtsTurn (frs outer) h₀ h₁ → Fr h₁ L h' m → News h₁ L h' news' → Below A₀ base outer h₁ → (Mine.k.heap_1 w.params).In h₁ → Top Mine.k.view_1 LO mean mg mb h₁ → KtsDicts (frs outer) h₁ → Post r news' → Q r { s with heap := h', toks := tk' }) →
    wpAny (model PySem.Challenge.rw_qz0105_01.row.prog w) (ktrTop dp un gd cn cs L a ccd cl outer) (call (.ref f) vs) Q E s
theorem SpecT.use {w : World} {f : Addr} {vs : List Value} {news : Led} {D : Nat} {Post : Value → Led → Prop} (S : SpecT w f vs news D Post)
    {dp un : Nat} {gd : Option (List Code)} {cn : Str} {cs : Scope} {a : Addr} {ccd : Value} {cl : List (Str × Addr)} {outer : List Env} {A₀ : Around} {base h₀ g₀ : Heap} {L : Addr} {m : Str → Option Value} {s : Shared}
    {mean : ExcName → Option Value} {mg mb : Str → Option Value} {Q E : Value → Shared → Prop}
    (B : Below A₀ base outer h₀) (F : Fr h₀ L s.heap m) (X : (Mine.k.heap_1 w.params).In h₀) (N : News h₀ L s.heap news) (T : Top Mine.k.view_1 LO mean mg mb h₀) (XB : (Mine.k.heap_1 w.params).In base) (TB : Top Mine.k.view_1 LO mean mg mb base) (D₀ : KtsDicts (frs outer) h₀)
    (T0 : KtsTurn (frs outer) g₀ h₀) (hk : cs.kind = .function) (hd : dp + D < recursionLimit) (hu : un + 8 * D + 200 < cLine)
    (h : ∀ r news' h' tk' h₁, KtsTurn (frs outer) g₀ h₁ → Fr h₁ L h' m → News h₁ L h' news' → Below A₀ base outer h₁ → (Mine.k.heap_1 w.params).In h₁ → Top Mine.k.view_1 LO mean mg mb h₁ → KtsDicts (frs outer) h₁ → Post r news' → Q r { s with heap := h', toks := tk' }) :
    wpAny (model PySem.Challenge.rw_qz0105_01.row.prog w) (ktrTop dp un gd cn cs L a ccd cl outer) (call (.ref f) vs) Q E s :=
  S _ _ _ _ _ _ _ _ _ _ _ _ _ _ _ _ _ _ _ _ B F X N T XB TB D₀ hk hd hu fun r news' h' tk' h₁ T1 => h r news' h' tk' h₁ (T0.trans T1)
theorem rs_ground : True := by
  w_top off
  trivial
/-! A loop whose turns turn the ground: the loop stands on the ground without the frames above; those lie in the ledger -/
def FramesIn (fs : List Addr) (g : Heap) (fe : Led) : Prop := ∀ b ∈ fs, ∀ o, g.get? b = some o → ∃ sl, (b, { o with slots := sl }) ∈ fe
section
variable {A₀ : Around} {base h₀ h : Heap} {outer : List Env} {L : Addr} {m : Str → Option Value} {nx fe : Led} {K : Frag} {p : Program} {loose : List Str} {mean : ExcName → Option Value} {mg mb : Str → Option Value}
theorem reground (B : Below A₀ base outer h₀) (F : Fr (hideAll h₀ (frs outer)) L h m) (N : News (hideAll h₀ (frs outer)) L h (fe ++ nx)) (hfe : FramesIn (frs outer) h₀ fe) (hnx : ∀ q ∈ nx, q.1 ∉ frs outer)
    (XB : K.In base) (TB : Top p loose mean mg mb base) (D : KtsDicts (frs outer) h₀) :
    ∃ h₁, KtsTurn (frs outer) h₀ h₁ ∧ Fr h₁ L h m ∧ News h₁ L h nx ∧ Below A₀ base outer h₁ ∧ K.In h₁ ∧ Top p loose mean mg mb h₁ ∧ KtsDicts (frs outer) h₁ := by
  obtain ⟨T₁, S₁⟩ := kts_turn_at (h := h) (fs := frs outer) (g := h₀)
    (fun b hb => by
      obtain ⟨_, o, ho', _⟩ := B.frames.mem hb
      exact ⟨o, ho'⟩)
    (fun b o e nmem => F.keep b o (hideAll_get _ e nmem))
    (fun b o e hm => by
      obtain ⟨sl, hs⟩ := hfe b hm o e
      exact ⟨sl, (N _ (List.mem_append_left _ hs)).1⟩)
  have B₃ : Below A₀ base outer (ktsHeap h (frs outer) h₀) := ⟨B.stack, fun b o e => T₁.other b o (B.stays b o e) (fun hm => by
    rw [(B.frames.mem hm).1] at e
    cases e), B.frames.of_keeps fun b o e _ => by
    obtain ⟨sl', hs'⟩ := T₁.up e
    exact ⟨_, hs', rfl⟩⟩
  refine ⟨_, T₁, ⟨F.ns, S₁, by
    have z := F.above
    rw [hideAll_size] at z
    rw [T₁.size]
    exact z⟩, fun q hq => ?_, B₃, XB.keeps B₃.stays, TB.keeps B₃.stays, D.turn T₁⟩
  have z := N q (List.mem_append_right _ hq)
  refine ⟨z.1, z.2.1, T₁.none_ _ ?_⟩
  cases e : h₀.get? q.1 with
  | none => rfl
  | some o =>
    have := hideAll_get _ e (hnx q hq)
    rw [z.2.2] at this
    cases this
theorem frames_off (B : Below A₀ base outer h₀) (N : News h₀ L h nx) : ∀ q ∈ nx, q.1 ∉ frs outer := fun q hq hm => by
  obtain ⟨_, o, ho, _⟩ := B.frames.mem hm
  rw [(N q hq).2.2] at ho
  cases ho
theorem regroundC {C : Prop} (B : Below A₀ base outer h₀) (F : Fr (hideAll h₀ (frs outer)) L h m) (N : News (hideAll h₀ (frs outer)) L h (fe ++ nx)) (hfe : FramesIn (frs outer) h₀ fe) (hnx : ∀ q ∈ nx, q.1 ∉ frs outer)
    (XB : K.In base) (TB : Top p loose mean mg mb base) (D : KtsDicts (frs outer) h₀)
    (k : ∀ h₁, KtsTurn (frs outer) h₀ h₁ → Fr h₁ L h m → News h₁ L h nx → Below A₀ base outer h₁ → K.In h₁ → Top p loose mean mg mb h₁ → KtsDicts (frs outer) h₁ → C) : C :=
  match reground B F N hfe hnx XB TB D with
  | ⟨h₁, a, b, c, d, e, f, g⟩ => k h₁ a b c d e f g
theorem unground {h₁ : Heap} (B : Below A₀ base outer h₁) (T : KtsTurn (frs outer) h₀ h₁) (F : Fr h₁ L h m) (N : News h₁ L h nx) :
    ∃ fe, Fr (hideAll h₀ (frs outer)) L h m ∧ News (hideAll h₀ (frs outer)) L h (fe ++ nx) ∧ FramesIn (frs outer) h₀ fe ∧ (∀ q ∈ nx, q.1 ∉ frs outer) ∧ ∀ q ∈ fe, q.1 ∈ frs outer := by
  have hL : h₁.get? L = none := kts_self F
  have hLf : L ∉ frs outer := fun hm => by
    obtain ⟨_, o, ho, _⟩ := B.frames.mem hm
    rw [hL] at ho
    cases ho
  refine ⟨(frs outer).filterMap fun b => (h.get? b).map fun o => (b, o), ⟨F.ns, fun b o e => F.keep b o (T.other b o (of_hideAll _ e) fun hm => by rw [hideAll_none _ hm] at e; cases e), ?_⟩, fun q hq => ?_, fun b hb o e => ?_, frames_off B N, fun q hq => ?_⟩
  · rw [hideAll_size, ← T.size]
    exact F.above
  · rcases List.mem_append.mp hq with hq | hq
    · obtain ⟨b, hb, e⟩ := List.mem_filterMap.mp hq
      cases hg : h.get? b with
      | none => rw [hg] at e; cases e
      | some o =>
        rw [hg] at e
        simp only [Option.map_some, Option.some.injEq] at e
        subst e
        exact ⟨hg, fun q => hLf (q ▸ hb), hideAll_none _ hb⟩
    · have z := N q hq
      refine ⟨z.1, z.2.1, ?_⟩
      cases e : (hideAll h₀ (frs outer)).get? q.1 with
      | none => rfl
      | some o =>
        have h2 := T.other _ _ (of_hideAll _ e) (fun hm => by rw [hideAll_none _ hm] at e; cases e)
        rw [z.2.2] at h2
        cases h2
  · obtain ⟨sl, hs⟩ := T.frame b o e hb
    have hg := F.keep _ _ hs
    exact ⟨sl, List.mem_filterMap.mpr ⟨b, hb, by rw [hg]; rfl⟩⟩
  · obtain ⟨b, hb, e⟩ := List.mem_filterMap.mp hq
    cases hg : h.get? b with
    | none => rw [hg] at e; cases e
    | some o =>
      rw [hg] at e
      simp only [Option.map_some, Option.some.injEq] at e
      subst e
      exact hb
theorem ungroundC {C : Prop} {h₁ : Heap} (B : Below A₀ base outer h₁) (T : KtsTurn (frs outer) h₀ h₁) (F : Fr h₁ L h m) (N : News h₁ L h nx)
    (k : ∀ fe, Fr (hideAll h₀ (frs outer)) L h m → News (hideAll h₀ (frs outer)) L h (fe ++ nx) → FramesIn (frs outer) h₀ fe → (∀ q ∈ nx, q.1 ∉ frs outer) → (∀ q ∈ fe, q.1 ∈ frs outer) → C) : C :=
  match unground B T F N with
  | ⟨fe, a, b, c, d, e⟩ => k fe a b c d e
end
/-- a turn's end on a turned ground -/
def TurnT (fs : List Addr) (A₀ : Around) (base : Heap) (outer : List Env) (h₀ : Heap) (L : Addr) (J : (Str → Option Value) → Led → Prop) (s₁ : Shared) (f : Flow) (s₂ : Shared) : Prop :=
  f = .next ∧ ∃ h' tk m' nx h₁, s₂ = { s₁ with heap := h', toks := tk } ∧ KtsTurn fs h₀ h₁ ∧ Fr h₁ L h' m' ∧ News h₁ L h' nx ∧ Below A₀ base outer h₁ ∧ J m' nx
theorem turnT_end {M : Model} {A A₀ : Around} {E : Value → Shared → Prop} {base hb h₀ : Heap} {outer : List Env} {L : Addr} {fs : List Addr} {target : PySem.Expr} {body : List Stmt} {env : Env} {v : Value} {J : (Str → Option Value) → Led → Prop} {its : Led} {rest : (Str → Option Value) → Led → Prop} {Q : Flow → Shared → Prop} {s₁ : Shared}
    (conv : ∀ s₃, TurnT fs A₀ base outer h₀ L J s₁ .next s₃ → UnrEndW hb L s₁ its rest s₃)
    (h : wpAny M A (assign target env v) (fun _ s₂ => wpAny M A (execs body env) (TurnT fs A₀ base outer h₀ L J s₁) E s₂) E s₁) :
    wpAny M A (assign target env v) (fun _ s₂ => wpAny M A (execs body env) (UnrPostW hb L s₁ its rest Q) E s₂) E s₁ :=
  wpAny_mono h (fun _ s₂ h₂ => wpAny_mono h₂ (fun f s₃ p => by
    obtain ⟨rfl, q⟩ := id p
    exact conv s₃ p) fun _ _ e => e) fun _ _ e => e
theorem not_frame {A₀ : Around} {base h₀ : Heap} {outer : List Env} {fe nx : Led} {I : Addr} (B : Below A₀ base outer h₀) (hfe : FramesIn (frs outer) h₀ fe) (ho : ∀ p ∈ fe ++ nx, p.1 ≠ I) : I ∉ frs outer := fun hm => by
  obtain ⟨_, o, hg, _⟩ := B.frames.mem hm
  obtain ⟨sl, h⟩ := hfe I hm o hg
  exact ho _ (List.mem_append_left _ h) rfl
theorem turn_nil_F {h₀ h₁ h : Heap} {L : Addr} {m : Str → Option Value} (T : KtsTurn [] h₀ h₁) (F : Fr h₁ L h m) : Fr h₀ L h m :=
  ⟨F.ns, fun b o e => F.keep b o (T.other b o e fun hm => nomatch hm), by rw [← T.size]; exact F.above⟩
theorem turn_nil_N {h₀ h₁ h : Heap} {L : Addr} {nx : Led} (T : KtsTurn [] h₀ h₁) (N : News h₁ L h nx) : News h₀ L h nx := fun p hp => by
  have z := N p hp
  refine ⟨z.1, z.2.1, ?_⟩
  cases e : h₀.get? p.1 with
  | none => rfl
  | some o =>
    have h2 := T.other _ _ e fun hm => nomatch hm
    rw [z.2.2] at h2
    cases h2
theorem rs_die : True := by
  w_top off
  trivial
theorem News.d2b {h₀ h : Heap} {L : Addr} {a b c d : Addr × Obj} {l : Led} (N : News h₀ L h (a :: b :: c :: d :: l)) : News h₀ L h (a :: c :: l) := News.sub1 N fun p hp => by
  rcases List.mem_cons.mp hp with h | hp
  · exact h ▸ .head _
  · rcases List.mem_cons.mp hp with h | hp
    · exact h ▸ .tail _ (.tail _ (.head _))
    · exact .tail _ (.tail _ (.tail _ (.tail _ hp)))
set_option maxRecDepth 100000 in
set_option maxHeartbeats 8000000 in
theorem die_spec {w : World} {news : Led} {v : Str} {t : Tok} : Spec w 370 [.str v t] news 8 (fun r news' => ∃ e tt d vs, r = .ref e ∧ news' = (e, excO 370 tt (some d)) :: (tt, tupO vs) :: news ∧ ∀ q ∈ news, q.1 ≠ e ∧ q.1 ≠ tt) := by
  intro dp un gd cn cs a ccd cl outer A₀ base h₀ L m s mean mg mb Q E B F X N T hk hd hu hret
  refine' xc_made (K := Mine.k.heap_1 w.params) PySem.F.excBase_Exception F X N ?hC ?hB ?hA ?hN ?hi ?hf ?hr ?_
  case hC => with_unfolding_all rfl
  case hB => decide
  case hA => decide
  case hN => decide
  case hi => k_is
  case hf => k_is
  case hr => exact Nat.le_of_ble_eq_true rfl
  intro e te h1 F1 N1 l1 l2
  k_lt l1
  have l3 := allLt_of (allLt_up l1 l2)
  refine wpAny_call ?_
  k_dflt ktr_enter
  repeat' (first | (with_reducible (k_here; k_dflt (refine' xc_init PySem.F.excBase_Exception ?k1 ?k2 (News.pull ?P ?k3) ?k4 ?k5 ?k6 ?k7 ?_; (case k1 => k_asm); (case k2 => k_asm); (case k3 => k_asm); k_extra "m P"; (case k4 => with_unfolding_all rfl); (case k5 => decide); (case k6 => k_all); (case k7 => exact Nat.le_of_ble_eq_true rfl); k_whole); intro t' h' F' N' l1 l2; (try k_lt l1); (try k_sweep))) | (with_reducible (k_here; refine' method_type ?F ?X ?m (by decide +kernel) ?e ?h ?_; (case F => k_asm); (case X => k_asm); (case m => with_unfolding_all rfl); (case e => k_dflt k_is); (case h => k_handed))) | (with_reducible (k_here; k_dflt (refine' xc_set_new ?k1 ?k2 (News.pull ?P ?k3) ?k4 ?k5 ?k6 ?k7 ?k8 ?k9 ?_; (case k1 => k_asm); (case k2 => k_asm); (case k3 => k_asm); k_extra "m P"; (case k4 => k_all); (case k5 => with_unfolding_all rfl); (case k6 => decide); (case k7 => k_is); (case k8 => k_is); (case k9 => (intro self'; rw [refuseLoop_ref, refuseLoop_ref]; exact PySem.F.store_Exception.passes self')); k_whole); intro d' h' F' N' l1 l2; (try k_lt l1); (try k_sweep))) | (with_reducible (k_here; k_dflt (refine' xc_set_old ?k1 ?k2 (News.pull (Pull.tail ?P2) (News.pull ?P ?k3)) ?k4 ?k41 ?k5 ?k6 ?k7 ?k8 ?k9 ?ka ?kb ?kc ?_; (case k1 => k_asm); (case k2 => k_asm); (case k3 => k_asm); k_extra "m P"; k_extra "m P2"; (case k4 => k_all); (case k41 => first | (apply Nat.ne_of_lt; assumption) | (apply Nat.ne_of_gt; assumption)); (case k5 => with_unfolding_all rfl); (case k6 => decide); (case k7 => k_is); (case k8 => k_is); (case k9 => (intro self'; rw [refuseLoop_ref, refuseLoop_ref]; exact PySem.F.store_Exception.passes self')); (case ka => k_get); (case kb => k_put); (case kc => exact Nat.le_of_ble_eq_true rfl); k_whole); intro h' F' N'; (try k_sweep))) | (k_unfold; (try dsimp only)) | walk1 | (dsimp only; walk1) | (leave1; walk_say "STEP leave1"; (try dsimp only)))
  rename_i kX9 Tc9 kN9 kF9
  refine hret _ _ _ _ (by k_asm) (News.d2b (by k_asm)) (exI4 ⟨rfl, rfl, fun q hq => ⟨?_, ?_⟩⟩)
  · exact allLt_ne l3 q hq
  · exact allLt_ne (by with_reducible assumption) q hq
theorem rs_dies : True := by
  w_top off
  trivial
section
/-- the run's counter: nothing is noted there -/
inductive CountRep (w : World) (news : Led) (rn : Addr) : Prop
  | mk (rnd ct ctd pl em : Addr) (es es2 : List DictEntry) (n n2 : Nat) (o1 o2 : Obj) (f0 : (rn, instObj 623 rnd) ∈ news) (f1 : (rnd, dictOf es n) ∈ news) (f2 : getL (Str.ofString "counter") es = some (some (.ref ct))) (f3 : (ct, instObj 602 ctd) ∈ news) (f4 : (ctd, dictOf es2 n2) ∈ news) (f5 : getL (Str.ofString "store") es2 = some none) (f6 : getL (Str.ofString "places") es2 = some (some (.ref pl))) (f7 : getL (Str.ofString "empties") es2 = some (some (.ref em))) (f8 : (pl, o1) ∈ news) (f9 : o1.IsDictOf (PySem.intKind PG w) []) (f10 : (pl == sysModules) = false) (f11 : (em, o2) ∈ news) (f12 : o2.IsDictOf (PySem.intKind PG w) []) (f13 : (em == sysModules) = false) : CountRep w news rn
theorem CountRep.mono {w : World} {news news' : Led} {rn : Addr} (h : CountRep w news rn) (hs : ∀ p ∈ news, p ∈ news') : CountRep w news' rn := by
  obtain ⟨rnd, ct, ctd, pl, em, es, es2, n, n2, o1, o2, a, b, c, d, e, x, f, g, i, j, k, l, q, r⟩ := h
  exact ⟨rnd, ct, ctd, pl, em, es, es2, n, n2, o1, o2, hs _ a, hs _ b, c, hs _ d, hs _ e, x, f, g, hs _ i, j, k, hs _ l, q, r⟩
section
variable {prog : Program} {w : World} {A : Around} {E : Value → Shared → Prop} {s : Shared} {h₀ : Heap} {L d : Addr} {news : Led} {o : Obj}
theorem pop_none {k : Int} {tk : Tok} {dflt : Value} {Q : Value → Shared → Prop} (N : News h₀ L s.heap news) (hm : (d, o) ∈ news) (hd : o.IsDictOf (PySem.intKind prog w) []) (lo : (d == sysModules) = false)
    (h : Q dflt { s with toks := s.toks + 1 }) : wpAny (model prog w) A (call (.builtin "dict.pop") [.ref d, .int k tk, dflt]) Q E s := by
  have hD : s.heap.DictOf (PySem.intKind prog w) d [] := Heap.dictOf_iff.mpr ⟨o, (N _ hm).1, hd⟩
  exact call_meetsIn PySem.F.slot_dict_pop hD.typeIs PySem.F.entry_dict_pop (PySem.F.args_dict_pop_3 _ _ _) (meets_dict_pop_default (PySem.intKind prog w) d (intKind_is _ _ _ _) lo rfl dflt) ⟨[], hD, rfl, h⟩
end
set_option maxRecDepth 100000 in
set_option maxHeartbeats 8000000 in
theorem dies_spec {w : World} {sg sgd rn sc : Addr} {h1 h2 h3 : Int} {t1 t2 t3 wt : Tok} {lv : Value} {news : Led} {name : Str} {k : Int}
    (g1 : (sg, instObj 499 sgd) ∈ news) (g2 : (sgd, sgO h1 h2 h3 t1 t2 t3 rn lv) ∈ news) (hC : CountRep w news rn) (hS : ScalarRep news rn name sc) (hk4 : k = 0 ∨ k = 1 ∨ k = 2 ∨ k = 3) :
    SpecT w 759 [.ref sg, .ref rn, .ref sc, .int k wt] news 16 (fun r news' => r = .bool true ∧ news' = news) := by
  obtain ⟨rnd, ct, ctd, pl, em, es, es2, n, n2, o1, o2, c1, c2, c3, c4, c5, c0, c6, c7, c8, c9, c10, c11, c12, c13⟩ := hC
  obtain ⟨scd, es3, n3, num, nt, ng, ngd, i1, i2, u1, u2, u3, n4, s1, s2, s3, s4, s5, s6⟩ := hS
  intro dp un gd cn cs a ccd cl outer A₀ base h₀ L m s mean mg mb Q E B F X N T XB TB D hk hd hu hret
  rcases hk4 with rfl | rfl | rfl | rfl
  all_goals
    refine wpAny_call ?_
    k_dflt (refine' code_T ?k1 ?k2 ?k3 ?k4 ?k5 ?XB ?TB ?D KtsTurn.refl ?kA ?kF ?kK ?k6 ?k7 ?k8 ?k9 ?kB ?_ ?c2 ?c3 ?c4 ?c5; (case kA => exact rfl); (case kF => exact rfl); (case kK => assumption); (case k1 => k_asm); (case k2 => k_asm); (case k3 => k_asm); (case k4 => k_asm); (case k5 => k_asm); (case XB => assumption); (case TB => assumption); (case D => assumption); (case k6 => k_is); (case k7 => k_is); (case k8 => ktr_room); (case k9 => exact BindsTo.of_eq rfl); (case c5 => decide); (case kB => exact locs rfl); (case c2 => exact rfl); (case c3 => exact rfl); (case c4 => exact rfl); k_whole; intro g' L' h' FG' F' N' B' X' T' D'; (try dsimp only); (try k_fold); k_extra "fA")
    repeat' (first | (k_unfold; (try dsimp only)) | k_extra "r exc_1" | k_extra "r dies_2" | k_extra "r dies_1" | k_extra "r die_2" | k_extra "r die_1" | (k_end; kc_close) | walk1 | (dsimp only; walk1) | (leave1; walk_say "STEP leave1"; (try dsimp only)))
  all_goals first
    | exact hret _ _ _ _ _ (by assumption) (by with_reducible assumption) (by with_reducible assumption) (by assumption) (by assumption) (by assumption) (by assumption) ⟨rfl, rfl⟩
    | exact hret _ _ _ _ _ (by assumption) (by with_reducible assumption) (News.t1 (by with_reducible assumption)) (by assumption) (by assumption) (by assumption) (by assumption) ⟨rfl, rfl⟩
    | fail "end"
end
theorem rs_pairs : True := by
  w_top off
  trivial
/-- a match as _law_match hands it on -/
def MatchRep (w : World) (news : Led) (mv : Value) : Option MD → Prop
  | none => mv = .none
  | some M => M.Ok ∧ ∃ (tm ga nd : Addr) (tt : Tok), mv = .ref tm ∧ (tm, tupO [.str M.text tt, .ref ga, .ref nd]) ∈ news ∧ GRep news ga M ∧ NRep w news nd M
theorem MatchRep.mono {w : World} {news news' : Led} {mv : Value} {c : Option MD} (h : MatchRep w news mv c) (hs : ∀ p ∈ news, p ∈ news') : MatchRep w news' mv c := by
  cases c with
  | none => exact h
  | some M =>
    obtain ⟨ok, tm, ga, nd, tt, a, b, c, d⟩ := h
    exact ⟨ok, tm, ga, nd, tt, a, hs _ b, c.mono hs, d.mono hs⟩
/-- a list of pairs of texts -/
inductive TupsAre (news : Led) : List Value → List (Str × Str) → Prop
  | nil : TupsAre news [] []
  | cons {vs : List Value} {ps : List (Str × Str)} (k x : Str) (tk tx : Tok) (a : Addr) : (a, tupO [.str k tk, .str x tx]) ∈ news → TupsAre news vs ps → TupsAre news (.ref a :: vs) ((k, x) :: ps)
theorem TupsAre.mono {news news' : Led} (hs : ∀ p ∈ news, p ∈ news') : ∀ {vs : List Value} {ps : List (Str × Str)}, TupsAre news vs ps → TupsAre news' vs ps
  | _, _, .nil => .nil
  | _, _, .cons k x tk tx a h r => .cons k x tk tx a (hs _ h) (TupsAre.mono hs r)
theorem TupsAre.snoc {news : Led} {k x : Str} {tk tx : Tok} {a : Addr} (h : (a, tupO [.str k tk, .str x tx]) ∈ news) : ∀ {vs : List Value} {ps : List (Str × Str)}, TupsAre news vs ps → TupsAre news (vs ++ [.ref a]) (ps ++ [(k, x)])
  | _, _, .nil => .cons k x tk tx a h .nil
  | _, _, .cons k' x' tk' tx' a' h' r => .cons k' x' tk' tx' a' h' (TupsAre.snoc h r)
theorem TupsAre.len {news : Led} : ∀ {vs : List Value} {ps : List (Str × Str)}, TupsAre news vs ps → vs.length = ps.length
  | _, _, .nil => rfl
  | _, _, .cons _ _ _ _ _ _ r => by simp [TupsAre.len r]
theorem TupsAre.get {news : Led} : ∀ {vs : List Value} {ps : List (Str × Str)}, TupsAre news vs ps → ∀ {i : Nat} {v : Value}, vs[i]? = some v → ∃ k x tk tx a, v = .ref a ∧ ps[i]? = some (k, x) ∧ (a, tupO [.str k tk, .str x tx]) ∈ news
  | _, _, .nil, i, v, h => by simp at h
  | _, _, .cons k x tk tx a h r, 0, v, e => by simp at e; subst e; exact ⟨k, x, tk, tx, a, rfl, rfl, h⟩
  | _, _, .cons _ _ _ _ _ _ r, i + 1, v, e => by simp at e; simpa using TupsAre.get r e
/-- the groups that are there -/
inductive GTups (news : Led) : List Value → List (Int × Int) → Prop
  | nil : GTups news [] []
  | cons {vs : List Value} {ps : List (Int × Int)} (b e : Int) (tb te : Tok) (a : Addr) : (a, tupO [.int b tb, .int e te]) ∈ news → GTups news vs ps → GTups news (.ref a :: vs) ((b, e) :: ps)
theorem GTups.snoc {news : Led} {b e : Int} {tb te : Tok} {a : Addr} (h : (a, tupO [.int b tb, .int e te]) ∈ news) : ∀ {vs : List Value} {ps : List (Int × Int)}, GTups news vs ps → GTups news (vs ++ [.ref a]) (ps ++ [(b, e)])
  | _, _, .nil => .cons b e tb te a h .nil
  | _, _, .cons b' e' tb' te' a' h' r => .cons b' e' tb' te' a' h' (GTups.snoc h r)
theorem GTups.len {news : Led} : ∀ {vs : List Value} {ps : List (Int × Int)}, GTups news vs ps → vs.length = ps.length
  | _, _, .nil => rfl
  | _, _, .cons _ _ _ _ _ _ r => by simp [GTups.len r]
noncomputable def MD.grp (M : MD) (i : Int) : Option (Int × Int) := (M.gs[i.toNat]?).join
theorem MD.cut_grp (M : MD) (i : Int) : M.cut i = (M.grp i).map fun p => Txt.slice M.text (some p.1) (some p.2) := by
  unfold MD.cut MD.grp
  cases M.gs[i.toNat]? with
  | none => rfl
  | some g => cases g <;> rfl
theorem MD.texts_grp (M : MD) (is : List Int) : M.texts is = (is.filterMap M.grp).map fun p => Txt.slice M.text (some p.1) (some p.2) := by
  unfold MD.texts
  rw [List.map_filterMap]
  exact congrArg (fun f => List.filterMap f is) (funext M.cut_grp)
theorem kw7_all : True := by
  k_with "all" => (refine List.forall_mem_cons.mpr ⟨?_, ?_⟩; (focus (dsimp only; first | assumption | (apply Nat.ne_of_lt; assumption) | (apply Nat.ne_of_gt; assumption) | exact Nat.ne_of_lt (Nat.lt_succ_self _) | exact Nat.ne_of_gt (Nat.lt_succ_self _))); k_all)
  trivial
section
variable {prog : Program} {w : World} {A : Around} {E : Value → Shared → Prop} {s : Shared} {h₀ : Heap} {L : Addr} {news : Led}
theorem ne_longer {a b : Addr} {xs ys : List Value} {n k : Nat} {Q : Value → Shared → Prop} (N : News h₀ L s.heap news) (ha : (a, listOf xs.toArray n) ∈ news) (hb : (b, listOf ys.toArray k) ∈ news) (hl : (xs.length != ys.length) = true) (hu : A.units < cLine)
    (h : Q (.bool true) s) : wpAny (model prog w) A (compareOp .NotEq (.ref a) (.ref b)) Q E s :=
  (SeqAt.RcNeAt.lists_lengths (mem_list N ha) (mem_list N hb) (by rw [List.size_toArray, List.size_toArray]; exact hl) hu) prog w E Q h
end
set_option maxRecDepth 100000 in
set_option maxHeartbeats 8000000 in
theorem pairs_none {w : World} {news : Led} :
    Spec w 752 [.none] news 12 (fun r news' => ∃ (ld : Addr) (c : Nat), r = .ref ld ∧ news' = (ld, listOf #[] c) :: news ∧ ∀ p ∈ news, p.1 < ld) := by
  intro dp un gd cn cs a ccd cl outer A₀ base h₀ L m s mean mg mb Q E B F X N T hk hd hu hret
  refine wpAny_call ?_
  refine' code_defC ?k1 ?k2 ?k3 ?k4 ?k5 ?kA ?kF ?kK ?k6 ?k7 ?k8 ?k9 ?kB ?kD ?_ ?c2 ?c3 ?c4
  case kA => exact rfl
  case kF => exact rfl
  case kK => assumption
  case k1 => k_asm
  case k2 => k_asm
  case k3 => k_asm
  case k4 => k_asm
  case k5 => k_asm
  case k6 => k_is
  case k7 => k_is
  case k8 => ktr_room
  case k9 => exact BindsTo.of_eq rfl
  case kB => exact rfl
  case kD => decide +kernel
  case c2 => exact rfl
  case c3 => exact rfl
  case c4 => exact rfl
  intro g' L' h' tk' cells' FG' F' N' Y' B' X' T' l1
  k_lt l1
  k_cells Y'
  simp only [List.cons_append, List.nil_append] at N'
  try dsimp only
  try k_lift B'
  try k_fold
  k_extra "fA"
  k_steps
  refine hret _ _ _ _ (by k_asm) (News.sub1 (by k_asm) ?_) ⟨_, 0, rfl, rfl, allLt_mem (by assumption)⟩
  intro p hp
  rcases List.mem_cons.mp hp with h | h
  · exact h ▸ .head _
  · exact .tail _ (.tail _ (.tail _ h))
theorem join_led {prog : Program} {w : World} {A : Around} {E : Value → Shared → Prop} {s : Shared} {h₀ : Heap} {L : Addr} {news : Led} {D : Addr} {ys : List Value} {xs : List Str} {n : Nat} {x : Str} {t : Tok} {Q : Value → Shared → Prop} (N : News h₀ L s.heap news) (hm : (D, listOf ys.toArray n) ∈ news) (hi : StrsAre ys xs)
    (hok : (xs.map (·.length)).sum + xs.length * x.length ≤ 1000) (h : ∀ t' k, Q (.str (Txt.join x xs) t') { s with toks := k }) : wpAny (model prog w) A (call (.builtin "str.join") [.str x t, .ref D]) Q E s :=
  join_list (mem_list N hm) hi (Nat.le_trans hok (by decide)) h
theorem tup_led {prog : Program} {w : World} {A : Around} {E : Value → Shared → Prop} {s : Shared} {h₀ : Heap} {L : Addr} {news : Led} {value slice : PySem.Expr} {t : Addr} {l : List Value} {k : Int} {u : Tok} {j : Nat} {x : Value} {Q : Value → Shared → Prop} (N : News h₀ L s.heap news) (hm : (t, tupO l) ∈ news)
    (hlo : -(2 ^ 63) ≤ k) (hhi : k < 2 ^ 63) (hj : seqIndex? k l.length = some j) (hx : l[j]? = some x) (h : Q x s)
    (hs : subscripted slice false (.ref t) (.int k u) = operate [.ref t, .int k u] (getItem (.ref t) (.int k u))) :
    wpAny (model prog w) A (subscriptTail value slice (.ref t) (.int k u)) Q E s := item_tupleT (News.isTup N hm) hlo hhi hj hx h hs
theorem rs_pairs2 : True := by
  w_top off
  trivial
set_option maxRecDepth 100000 in
set_option maxHeartbeats 8000000 in
theorem pairs_some {w : World} {news : Led} {M : MD} {tm ga nd : Addr} {tt : Tok} (ok : M.Ok) (g2 : (tm, tupO [.str M.text tt, .ref ga, .ref nd]) ∈ news) (g3 : GRep news ga M) (g4 : NRep w news nd M) :
    Spec w 752 [.ref tm] news 12 (fun r news' => ∃ ld vs c new b, r = .ref ld ∧ news' = (ld, listOf vs.toArray c) :: (new ++ news) ∧ TupsAre new vs M.found ∧ (∀ p ∈ news, p.1 < b) ∧ Above b ((ld, listOf vs.toArray c) :: new)) := by
  obtain ⟨gv, gn, q1, q2, q3⟩ := g3
  obtain ⟨od, kvs, g6, g7, g8, g9, g10⟩ := g4
  intro dp un gd cn cs a ccd cl outer A₀ base h₀ L m s mean mg mb Q E B F X N T hk hd hu hret
  refine wpAny_call ?_
  refine' code_defC ?k1 ?k2 ?k3 ?k4 ?k5 ?kA ?kF ?kK ?k6 ?k7 ?k8 ?k9 ?kB ?kD ?_ ?c2 ?c3 ?c4
  case kA => exact rfl
  case kF => exact rfl
  case kK => assumption
  case k1 => k_asm
  case k2 => k_asm
  case k3 => k_asm
  case k4 => k_asm
  case k5 => k_asm
  case k6 => k_is
  case k7 => k_is
  case k8 => ktr_room
  case k9 => exact BindsTo.of_eq rfl
  case kB => exact rfl
  case kD => decide +kernel
  case c2 => exact rfl
  case c3 => exact rfl
  case c4 => exact rfl
  intro g' L' h' tk' cells' FG' F' N' Y' B' X' T' l1
  k_lt l1
  k_cells Y'
  simp only [List.cons_append, List.nil_append] at N'
  try dsimp only
  try k_lift B'
  try k_fold
  k_extra "fA"
  have l2 := allLt_of (allLt_up l1 (Nat.lt_succ_self L'))
  have l3 := allLt_of (allLt_up l2 (Nat.lt_succ_self (L' + 1)))
  repeat' (first | (k_unfold; (try dsimp only)) | k_extra "r pairs_2" | (k_end; kc_close) | walk1 | (dsimp only; walk1) | (leave1; walk_say "STEP leave1"; (try dsimp only)))
  have zlF' := trivial
  rename_i fd hx0 q4 q5 q6 hx1 hx2 hx3 oc2 dc2 hx4 oc1 dc1 hx5 lF N1
  clear zlF'
  with_unfolding_all refine iter_dictS (kvs := kvs) (od := od) [Str.ofString "told"] (fun i nx => ∃ zs cz new, nx = (fd, listOf zs.toArray cz) :: (new ++ ((L' + 1 + 1, oc1) :: (L' + 1, oc2) :: news)) ∧ TupsAre new zs ((M.nms.take i).filterMap fun p => (M.texts p.2).head?.map fun t => (p.1, t)) ∧ (∀ q ∈ new, @LT.lt Nat _ fd q.1)) (by rfl) g7 (by k_mem) g8 lF N1 ?_ ?_ ?_ ?_
  · rintro i nx ⟨zs, cz, new, rfl, _⟩
    k_mem
  · exact ⟨[], 0, [], rfl, by simpa using TupsAre.nil, fun _ h => nomatch h⟩
  · intro i k v t u nx h tk I oI hk hJ ho F2 N2
    obtain ⟨zs, cz, new, rfl, hz, hnew⟩ := hJ
    have hval := valueAt_of_get g8 hk
    have hil : i < M.nms.length := by
      have := (List.getElem?_eq_some_iff.mp hk).1
      omega
    obtain ⟨nm, is, hnm⟩ : ∃ nm is, M.nms[i]? = some (nm, is) := ⟨M.nms[i].1, M.nms[i].2, List.getElem?_eq_getElem hil⟩
    obtain ⟨l, vs, ln, r1, r2, r3⟩ := g10 i nm is hnm
    rw [hk] at r1
    simp only [Option.some.injEq, Prod.mk.injEq] at r1
    obtain ⟨rfl, rfl⟩ := r1
    replace F2 : Fr g' L' h _ := F2
    replace N2 : News g' L' h _ := N2
    have hix := ok.idx _ (List.mem_of_getElem? hnm)
    have hfI : @Ne Nat fd I := ho _ (.head _)
    k_unmd
    k_fold
    repeat' (first | (k_unfold; (try dsimp only)) | k_extra "r comps_2" | k_extra "r macros_4" | (k_end; kc_close) | walk1 | (dsimp only; walk1) | (leave1; walk_say "STEP leave1"; (try dsimp only)))
    refine CompSrcJ.list (its := vs) (k := ln) (fun j ys nx => nx = (I, oI) :: (fd, listOf zs.toArray cz) :: (new ++ ((L' + 1 + 1, oc1) :: (L' + 1, oc2) :: news)) ∧ GTups news ys ((is.take j).filterMap M.grp)) rfl rfl (by k_asm) (by k_asm) ?_ ?_ ?_ ?_ ?_ ?_
    · rintro j ys nx ⟨rfl, _⟩
      k_mem
    · rw [r3.length, sizeLine_eq]
      exact Nat.le_trans hix.1 (by decide)
    · rintro j ys nx ⟨_, hy⟩
      rw [hy.len]
      exact len_filterMap_take _ _ _
    · exact ⟨rfl, by simpa using GTups.nil⟩
    · rintro g9 j v2 ys nx2 I2 oI2 C oC D m2 h2 tk2 E2 hj hv2 ⟨rfl, hy⟩ hC hm2 F3 N3 off3 ne3
      refine wpAny_tests_one ?_
      have hjl : j < is.length := by rw [← r3.length]; exact hj
      obtain ⟨t2, ht2⟩ := r3.get j is[j] (List.getElem?_eq_getElem hjl)
      obtain rfl : v2 = .int is[j] t2 := by rw [ht2] at hv2; exact (Option.some.inj hv2).symm
      obtain ⟨hj0, hj1⟩ := hix.2 is[j] (List.getElem_mem _)
      have hlt2 : is[j].toNat < M.gs.length := by omega
      have hgl := ok.glen
      obtain ⟨v3, hv3, hG⟩ := q3 _ _ (List.getElem?_eq_getElem hlt2)
      have hgr : M.grp is[j] = M.gs[is[j].toNat] := by unfold MD.grp; rw [List.getElem?_eq_getElem hlt2]; rfl
      generalize M.gs[is[j].toNat] = gg at hG hgr
      cases gg with
      | none =>
        obtain rfl : v3 = .none := hG
        k_unmd
        k_fold
        repeat' (first | (k_unfold; (try dsimp only)) | k_extra "r pairs_4" | k_extra "r comps_1" | (k_end; kc_close) | walk1 | (dsimp only; walk1) | (leave1; walk_say "STEP leave1"; (try dsimp only)))
        refine exI3 ⟨rfl, by k_asm, by k_asm, off3, rfl, ?_⟩
        rw [filterMap_take_succ _ _ _ hjl, hgr]
        simpa using hy
      | some be =>
        obtain ⟨b, e⟩ := be
        obtain ⟨a3, tb, te, rfl, ha3⟩ := hG
        k_unmd
        k_fold
        repeat' (first | (k_unfold; (try dsimp only)) | k_extra "r pairs_4" | k_extra "r comps_1" | (k_end; kc_close) | walk1 | (dsimp only; walk1) | (leave1; walk_say "STEP leave1"; (try dsimp only)))
        refine exI3 ⟨rfl, by k_asm, by k_asm, off3, rfl, ?_⟩
        rw [filterMap_take_succ _ _ _ hjl, hgr]
        exact hy.snoc ha3
    · rintro g9 ys nx2 ⟨rfl, hy⟩
      rw [r3.length, List.take_length] at hy
      intro D h3 tk3 F3 N3 o1
      simp only [LCg.Off1] at o1
      have hgrpok : ∀ p ∈ is.filterMap M.grp, 0 ≤ p.1 ∧ p.1 ≤ p.2 ∧ p.2 ≤ M.text.length := by
        intro p hp
        obtain ⟨i9, _, h9⟩ := List.mem_filterMap.mp hp
        unfold MD.grp at h9
        refine ok.gok p.1 p.2 ?_
        cases h10 : M.gs[i9.toNat]? with
        | none => rw [h10] at h9; cases h9
        | some g10 => rw [h10] at h9; exact List.mem_of_getElem? (by rw [h10]; exact congrArg some h9)
      have hmt : M.texts is = (is.filterMap M.grp).map fun p => Txt.slice M.text (some p.1) (some p.2) := M.texts_grp is
      generalize is.filterMap M.grp = gl at hy hgrpok hmt
      have e1 : M.nms[i] = (k, is) := by rw [List.getElem?_eq_getElem hil] at hnm; exact Option.some.inj hnm
      cases hy with
      | nil =>
        k_unmd
        repeat' (first | (k_unfold; (try dsimp only)) | k_extra "r macros_6" | (k_end; kc_close) | walk1 | (dsimp only; walk1) | (leave1; walk_say "STEP leave1"; (try dsimp only)))
        refine exI4 (a4 := (fd, listOf zs.toArray cz) :: (new ++ ((L' + 1 + 1, oc1) :: (L' + 1, oc2) :: news))) ⟨rfl, by k_asm, News.sub1 (by k_asm) ?_, ho, ⟨zs, cz, new, rfl, ?_, hnew⟩, ?_⟩
        · k_extra "m sub"
        · rw [filterMap_take_succ _ _ _ hil, e1]
          have e2 : M.texts is = [] := hmt
          simpa [e2] using hz
        · intro z h1 h2
          first | rfl | (simp [h1]; done) | (simp_all; done)
      | cons b e tb te a3 ha3 hy3 =>
        obtain ⟨hb0, hbe, hel⟩ := hgrpok (b, e) (.head _)
        have htl := ok.tlen
        k_unmd
        repeat' (first | (k_unfold; (try dsimp only)) | k_extra "r pairs_6" | k_extra "r pairs_5" | k_extra "r pairs_1" | k_extra "r comps_3" | (k_end; kc_close) | walk1 | (dsimp only; walk1) | (leave1; walk_say "STEP leave1"; (try dsimp only)))
        rename_i vs3 ps3 hz0 hh1 F4a N4a hL1 hL2 hL3 hL4 hL5 hL6 lz hh2 tkr t1r u1r v1r hr hF4 hN4 hk4
        refine CompSrcJ.range (n := (e - b).toNat) (news := (hz0, listOf #[] 0) :: (D, LCg.lst (.ref a3 :: vs3)) :: (I, oI) :: (fd, listOf zs.toArray cz) :: (new ++ ((L' + 1 + 1, oc1) :: (L' + 1, oc2) :: news))) (fun j ys nx => nx = (hz0, listOf #[] 0) :: (D, LCg.lst (.ref a3 :: vs3)) :: (I, oI) :: (fd, listOf zs.toArray cz) :: (new ++ ((L' + 1 + 1, oc1) :: (L' + 1, oc2) :: news)) ∧ StrsAre ys ((List.range j).map fun i : Nat => Txt.item M.text (b + (i : Int)))) rfl rfl hF4 hN4 hr ?_ ?_ ?_ ?_ ?_ ?_ ?_
        · exact small_one (by omega) (by omega) (by omega) (by omega)
        · exact rangeSize_nat _ _
        · rw [sizeLine_eq]
          omega
        · rintro j ys nx ⟨_, hy⟩
          rw [strs_len hy, List.length_map, List.length_range]
          exact Nat.le_refl _
        · exact ⟨rfl, by simpa using StrsAre.nil⟩
        · rintro g9 j v2 ys nx2 I2 oI2 C oC D2 m2 h2 tk2 E2 hj ⟨t2, rfl⟩ ⟨rfl, hy⟩ hC hm2 F5 N5 off3 ne3
          refine wpAny_tests_nil ?_
          rw [if_pos rfl]
          have hj2 : b + (j : Int) < M.text.length := by omega
          have hj3 : 0 ≤ b + (j : Int) := by omega
          k_unmd
          k_fold
          repeat' (first | (k_unfold; (try dsimp only)) | k_extra "r comps_1" | (k_end; kc_close) | walk1 | (dsimp only; walk1) | (leave1; walk_say "STEP leave1"; (try dsimp only)))
          refine exI3 ⟨rfl, by k_asm, by k_asm, off3, rfl, ?_⟩
          rw [List.range_succ, List.map_append]
          exact strs_push hy
        · rintro g9 ys nx2 ⟨rfl, hy⟩
          intro D2 h5 tk5 F5 N5 o2
          simp only [LCg.Off1] at o2
          have hjx : Txt.join (Str.ofString "") ((List.range (e - b).toNat).map fun i : Nat => Txt.item M.text (b + (i : Int))) = Txt.slice M.text (some b) (some e) := join_signs hb0 hbe hel (by omega)
          have hjs : ((((List.range (e - b).toNat).map fun i : Nat => Txt.item M.text (b + (i : Int))).map (·.length)).sum + ((List.range (e - b).toNat).map fun i : Nat => Txt.item M.text (b + (i : Int))).length * (Str.ofString "").length ≤ 1000) := by
            have h1 := sumLen_le_of_bound (fun i : Nat => Txt.item M.text (b + (i : Int))) 1 (List.range (e - b).toNat) (fun _ _ => Nat.le_of_eq (by simp [Txt.item, Str.length]))
            rw [List.length_range] at h1
            have h2 : (Str.ofString "").length = 0 := by decide
            rw [h2]
            omega
          generalize ((List.range (e - b).toNat).map fun i : Nat => Txt.item M.text (b + (i : Int))) = xs at hy hjx hjs
          have hzl := hz.len
          have hzl2 := len_filterMap_take (fun p : Str × List Int => (M.texts p.2).head?.map fun t => (p.1, t)) M.nms i
          have hnl := ok.nlen
          k_unmd
          repeat' (first | (k_unfold; (try dsimp only)) | k_extra "r pairs_3" | (k_end; kc_close) | walk1 | (dsimp only; walk1) | (leave1; walk_say "STEP leave1"; (try dsimp only)))
          rename_i tj kj D3 hh5 m1 m2 m3 m4 m5 m6 m7 m8 m9 hh6 F6 N6
          simp only [List.push_toArray] at N6
          rw [hjx] at N6
          refine exI4 (a4 := (fd, listOf (zs ++ [Value.ref D3]).toArray (cz + 1)) :: (((D3, tupO [.str k t, .str (Txt.slice M.text (some b) (some e)) tj]) :: new) ++ ((L' + 1 + 1, oc1) :: (L' + 1, oc2) :: news))) ⟨rfl, F6, News.sub1 N6 ?_, ?_, ⟨_, _, _, rfl, ?_, ?_⟩, ?_⟩
          · k_extra "m sub"
          · refine List.forall_mem_cons.mpr ⟨hfI, List.forall_mem_cons.mpr ⟨Nat.ne_of_gt m4, fun p hp => ho p (.tail _ hp)⟩⟩
          · rw [filterMap_take_succ _ _ _ hil, e1]
            have e2 : (M.texts is).head? = some (Txt.slice M.text (some b) (some e)) := by rw [hmt]; rfl
            simp only [e2, Option.map_some, Option.toList_some]
            exact (hz.mono fun p hp => .tail _ hp).snoc (.head _)
          · exact List.forall_mem_cons.mpr ⟨m5, hnew⟩
          · intro z h1 h2
            first | rfl | (simp [h1]; done) | (simp_all; done)
  · rintro u nx h tk ⟨zs, cz, new, rfl, hz, hnew⟩ F2 N2
    replace F2 : Fr g' L' h _ := F2
    replace N2 : News g' L' h _ := N2
    rw [g9, List.take_length] at hz
    k_unmd
    k_steps
    refine hret _ _ _ _ (by k_asm) (News.sub1 (by k_asm) ?_) ⟨fd, zs, cz, new, fd, rfl, rfl, hz, allLt_mem q6, List.forall_mem_cons.mpr ⟨Nat.le_refl _, fun q hq => Nat.le_of_lt (hnew q hq)⟩⟩
    k_extra "m sub"
theorem rs_seesr : True := by
  w_top off
  trivial
theorem pairs_spec {w : World} {news : Led} {cur : Option MD} {mv : Value} (h : MatchRep w news mv cur) :
    Spec w 752 [mv] news 12 (fun r news' => ∃ ld vs c new b, r = .ref ld ∧ news' = (ld, listOf vs.toArray c) :: (new ++ news) ∧ TupsAre new vs (foundC cur) ∧ (∀ p ∈ news, p.1 < b) ∧ b ≤ ld ∧ Above b new) := by
  cases cur with
  | none =>
    obtain rfl : mv = .none := h
    intro dp un gd cn cs a ccd cl outer A₀ base h₀ L m s mean mg mb Q E B F X N T hk hd hu hret
    refine pairs_none.use B F X N T hk hd hu fun r news' h' tk' F' N' hP => ?_
    obtain ⟨ld, c, e1, e2, hl⟩ := hP
    exact hret r news' h' tk' F' N' ⟨ld, [], c, [], ld, e1, e2, .nil, hl, Nat.le_refl _, fun _ h => nomatch h⟩
  | some M =>
    obtain ⟨ok, tm, ga, nd, tt, rfl, g2, g3, g4⟩ := h
    intro dp un gd cn cs a ccd cl outer A₀ base h₀ L m s mean mg mb Q E B F X N T hk hd hu hret
    refine (pairs_some ok g2 g3 g4).use B F X N T hk hd hu fun r news' h' tk' F' N' hP => ?_
    obtain ⟨ld, vs, c, new, b, e1, e2, ht, hb, ha⟩ := hP
    exact hret r news' h' tk' F' N' ⟨ld, vs, c, new, b, e1, e2, ht, hb, ha _ (.head _), fun q hq => ha q (.tail _ hq)⟩
theorem foundC_ok1 {cur : Option MD} (ok : ∀ M, cur = some M → M.Ok) : AllOk ((foundC cur).map (·.1)) := by
  cases cur with
  | none => exact fun _ h => nomatch h
  | some M =>
    intro x hx
    obtain ⟨p, hp, rfl⟩ := List.mem_map.mp hx
    obtain ⟨q, hq, e⟩ := List.mem_filterMap.mp hp
    cases hh : (M.texts q.2).head? with
    | none => rw [hh] at e; cases e
    | some t => rw [hh] at e; simp only [Option.map_some, Option.some.injEq] at e; subst e; exact (ok M rfl).nok q hq
theorem foundC_ok2 {cur : Option MD} (ok : ∀ M, cur = some M → M.Ok) : AllOk ((foundC cur).map (·.2)) := by
  cases cur with
  | none => exact fun _ h => nomatch h
  | some M =>
    intro x hx
    obtain ⟨p, hp, rfl⟩ := List.mem_map.mp hx
    obtain ⟨q, hq, e⟩ := List.mem_filterMap.mp hp
    cases hh : (M.texts q.2).head? with
    | none => rw [hh] at e; cases e
    | some t => rw [hh] at e; simp only [Option.map_some, Option.some.injEq] at e; subst e; exact MD.texts_ok (ok M rfl) q.2 t (List.mem_of_mem_head? (by rw [hh]; rfl))
theorem foundC_nodup {cur : Option MD} (ok : ∀ M, cur = some M → M.Ok) : ((foundC cur).map (·.1)).Nodup := by
  cases cur with
  | none => exact List.nodup_nil
  | some M =>
    have hn := (ok M rfl).nodup
    show ((M.nms.filterMap fun p => (M.texts p.2).head?.map fun t => (p.1, t)).map (·.1)).Nodup
    refine List.Nodup.sublist ?_ hn
    generalize M.nms = l
    induction l with
    | nil => exact List.Sublist.slnil
    | cons p r ih =>
      simp only [List.filterMap_cons, List.map_cons]
      cases (M.texts p.2).head? with
      | none => exact ih.cons _
      | some t => exact ih.cons_cons _
theorem TupsAre.kvs {news : Led} : ∀ {vs : List Value} {ps : List (Str × Str)}, TupsAre news vs ps → ∃ kvs : List (Str × Value), PairsAre kvs ps ∧ vs.length = kvs.length ∧ ∀ (j : Nat) (v : Value), vs[j]? = some v → ∃ (a : Addr) (k : Str) (t : Tok) (x : Value), v = Value.ref a ∧ (a, tupO [.str k t, x]) ∈ news ∧ kvs[j]? = some (k, x)
  | _, _, .nil => ⟨[], .nil, rfl, fun j v h => by simp at h⟩
  | _, _, .cons k x tk tx a h r => by
    obtain ⟨kvs, h1, h2, h3⟩ := TupsAre.kvs r
    refine ⟨(k, .str x tx) :: kvs, .cons k x tx h1, by simp [h2], fun j v hv => ?_⟩
    cases j with
    | zero => simp at hv; subst hv; exact ⟨a, k, tk, _, rfl, h, rfl⟩
    | succ j => simp at hv; simpa using h3 j v hv
theorem OptsAre.append : ∀ {vs ws : List Value} {os ps : List (Option Str)}, OptsAre vs os → OptsAre ws ps → OptsAre (vs ++ ws) (os ++ ps)
  | _, _, _, _, .nil, h => h
  | _, _, _, _, .cons a b, h => .cons a (OptsAre.append b h)
theorem OptsAre.take : ∀ {vs : List Value} {os : List (Option Str)} (k : Nat), OptsAre vs os → OptsAre (vs.take k) (os.take k)
  | _, _, 0, _ => by simpa using OptsAre.nil
  | _, _, _ + 1, .nil => by simpa using OptsAre.nil
  | _, _, k + 1, .cons a b => by simpa using OptsAre.cons a (OptsAre.take k b)
section
variable {prog : Program} {w : World} {A : Around} {E : Value → Shared → Prop} {s : Shared} {h₀ : Heap} {L : Addr} {m : Str → Option Value} {news : Led}
theorem ne_same {a b : Addr} {xs ys : List Value} {n k : Nat} {os : List (Option Str)} {Q : Value → Shared → Prop} (N : News h₀ L s.heap news) (ha : (a, listOf xs.toArray n) ∈ news) (hb : (b, listOf ys.toArray k) ∈ news)
    (hi : OptsAre xs os) (hj : OptsAre ys os) (ho : OptsOk os) (hu : A.units + 64 < cLine) (h : Q (.bool false) s) : wpAny (model prog w) A (compareOp .NotEq (.ref a) (.ref b)) Q E s :=
  ne_opts N ha hb hi hj ho ho hu (by simpa using h)
theorem ne_optstr {a b : Value} {o : Option Str} {Q : Value → Shared → Prop} (ha : OptStr a o) (hb : OptStr b o) (h : Q (.bool false) s) : wpAny (model prog w) A (compareOp .NotEq a b) Q E s := by
  cases o with
  | none =>
    obtain rfl : a = .none := ha
    obtain rfl : b = .none := hb
    exact SeqAt.RcNeAt.none_none prog w E Q h
  | some x =>
    obtain ⟨t, rfl⟩ := ha
    obtain ⟨u, rfl⟩ := hb
    exact ne_str (by simpa using h)
theorem add_led {a b : Addr} {xs ys : List Value} {n k : Nat} {Q : Value → Shared → Prop} (F : Fr h₀ L s.heap m) (N : News h₀ L s.heap news) (ha : (a, listOf xs.toArray n) ∈ news) (hb : (b, listOf ys.toArray k) ∈ news)
    (hz : xs.length + ys.length ≤ 1000)
    (h : ∀ D h', Fr h₀ L h' m → News h₀ L h' ((D, listOf (xs ++ ys).toArray 0) :: news) → (∀ p ∈ news, p.1 < D) → Q (.ref D) { s with heap := h' }) : wpAny (model prog w) A (binaryOp .Add (.ref a) (.ref b)) Q E s :=
  add_lists F N (mem_list N ha) (mem_list N hb) (fun h' F' N' => h _ h' F' N' fun p hp => Heap.lt_size (N p hp).1) (by rw [sizeLine_eq]; omega)
theorem dict_pairs_led {l : Addr} {vs : List Value} {ps : List (Str × Str)} {n : Nat} {Q : Value → Shared → Prop} (hh : A.handled = none) (F : Fr h₀ L s.heap m) (N : News h₀ L s.heap news) {p : Program} {loose : List Str} {mean : ExcName → Option Value} {mg mb : Str → Option Value} (T : Top p loose mean mg mb h₀)
    (hm : (l, listOf vs.toArray n) ∈ news) (hv : TupsAre news vs ps) (hn : (ps.map (·.1)).Nodup) (hle : ps.length ≤ 3)
    (h : ∀ (d : Addr) (o : Obj) (kvs : List (Str × Value)) h' tk, Fr h₀ L h' m → News h₀ L h' ((d, o) :: news) → (∀ p ∈ news, p.1 < d) → (d == sysModules) = false → o.IsDictOf (PySem.strKind prog w) kvs → PairsAre kvs ps → Q (.ref d) { s with heap := h', toks := tk }) :
    wpAny (model prog w) A (call (.type "dict") [.ref l]) Q E s := by
  obtain ⟨kvs, h1, h2, h3⟩ := hv.kvs
  refine dict_pairs_led0 hh F N (modules_low T.nolimit) hm h2 (by rw [h1.keys]; exact hn) (by rw [h1.len]; omega) h3 fun d o h' tk F' N' l1 lo hd => h d o kvs h' tk F' N' l1 lo hd h1
theorem slice_led {value slice : PySem.Expr} {l : Addr} {vs : List Value} {n : Nat} {vl vu vk : Value} {lo hi st : Option Int} {ops : List Value} {Q : Value → Shared → Prop} {ws : List Value}
    (F : Fr h₀ L s.heap m) (N : News h₀ L s.heap news) (hm : (l, listOf vs.toArray n) ∈ news) (pl : IsPart vl lo) (pu : IsPart vu hi) (pk : IsPart vk st) (h0 : st ≠ some 0) (hz : vs.length ≤ 1000) (hw : slicePick vs.toArray lo hi st = ws.toArray)
    (h : ∀ D h', Fr h₀ L h' m → News h₀ L h' ((D, listOf ws.toArray 0) :: news) → (∀ p ∈ news, p.1 < D) → Q (.ref D) { s with heap := h' })
    (hs : subscripted slice false (.ref l) (.ref s.heap.objs.size) = operate ops (getItem (.ref l) (.ref s.heap.objs.size)))
    (ht : ∀ r, letTemporaryGo value (.ref l) r = pure ()) :
    wpAny (model prog w) A (subscriptTail value slice (.ref l) (.ref s.heap.objs.size)) Q E { s with heap := s.heap.push { cls := .type "slice", data := .fields #[vl, vu, vk] } } :=
  slice_list3 F N (mem_list N hm) pl pu pk h0 (fun h' F' N' => h _ h' F' (by rw [hw] at N'; exact N') fun p hp => Nat.lt_succ_of_lt (Heap.lt_size (N p hp).1)) hs ht (by rw [List.size_toArray, sizeLine_eq]; omega)
end
/-! The items at even and at odd places -/
noncomputable def evens : List Value → List Value
  | [] => []
  | [a] => [a]
  | a :: _ :: r => a :: evens r
noncomputable def odds : List Value → List Value
  | [] => []
  | [_] => []
  | _ :: b :: r => b :: odds r
theorem RowsAre.evens {news : Led} {rn : Addr} : ∀ {vs : List Value} {xs : List Str}, RowsAre news rn vs xs → StrsAre (evens vs) xs
  | _, _, .nil => .nil
  | _, _, .cons x t _ _ r => .cons x t (RowsAre.evens r)
/-- scalars that read the names -/
inductive ScalsAre (news : Led) (rn : Addr) : List Value → List Str → Prop
  | nil : ScalsAre news rn [] []
  | cons {vs : List Value} {xs : List Str} (x : Str) (sc : Addr) : ScalarRep news rn x sc → ScalsAre news rn vs xs → ScalsAre news rn (.ref sc :: vs) (x :: xs)
theorem RowsAre.odds {news : Led} {rn : Addr} : ∀ {vs : List Value} {xs : List Str}, RowsAre news rn vs xs → ScalsAre news rn (odds vs) xs
  | _, _, .nil => .nil
  | _, _, .cons x _ sc h r => .cons x sc h (RowsAre.odds r)
theorem ScalsAre.len {news : Led} {rn : Addr} : ∀ {vs : List Value} {xs : List Str}, ScalsAre news rn vs xs → vs.length = xs.length
  | _, _, .nil => rfl
  | _, _, .cons _ _ _ r => by simp [ScalsAre.len r]
theorem ScalsAre.get {news : Led} {rn : Addr} : ∀ {vs : List Value} {xs : List Str}, ScalsAre news rn vs xs → ∀ {i : Nat} {v : Value}, vs[i]? = some v → ∃ sc x, v = .ref sc ∧ xs[i]? = some x ∧ ScalarRep news rn x sc
  | _, _, .nil, i, v, h => by simp at h
  | _, _, .cons x sc h r, 0, v, e => by simp at e; subst e; exact ⟨sc, x, rfl, rfl, h⟩
  | _, _, .cons _ _ _ r, i + 1, v, e => by simp at e; simpa using ScalsAre.get r e
theorem slice_take1 (vs : List Value) : slicePick vs.toArray none (some 1) none = (vs.take 1).toArray := by
  by_cases h : 1 ≤ vs.length
  · have := slicePick_upto vs.toArray 1 (by simpa using h)
    apply Array.ext'
    simpa using congrArg Array.toList this
  · have : vs = [] := List.eq_nil_of_length_eq_zero (by omega)
    subst this
    rfl
theorem slice_evens {news : Led} {rn : Addr} {vs : List Value} {xs : List Str} (h : RowsAre news rn vs xs) (hl : xs.length ≤ 3) : slicePick vs.toArray (some 0) none (some 2) = (evens vs).toArray := by
  cases h with
  | nil => kernel_rfl
  | cons x t sc _ r =>
    cases r with
    | nil => kernel_rfl
    | cons x2 t2 sc2 _ r =>
      cases r with
      | nil => kernel_rfl
      | cons x3 t3 sc3 _ r =>
        cases r with
        | nil => kernel_rfl
        | cons _ _ _ _ _ => simp at hl
theorem slice_odds {news : Led} {rn : Addr} {vs : List Value} {xs : List Str} (h : RowsAre news rn vs xs) (hl : xs.length ≤ 3) : slicePick vs.toArray (some 1) none (some 2) = (odds vs).toArray := by
  cases h with
  | nil => kernel_rfl
  | cons x t sc _ r =>
    cases r with
    | nil => kernel_rfl
    | cons x2 t2 sc2 _ r =>
      cases r with
      | nil => kernel_rfl
      | cons x3 t3 sc3 _ r =>
        cases r with
        | nil => kernel_rfl
        | cons _ _ _ _ _ => simp at hl
/-! What the walk over the names gives -/
noncomputable def walkOf (xs : List Str) : List (Option Str) := xs.map some ++ [none] ++ (xs.map some ++ [none]).take 1
theorem walkOf_len (xs : List Str) : (walkOf xs).length = xs.length + 2 := by
  unfold walkOf
  cases xs <;> simp
theorem walkOf_lo {xs : List Str} {j : Nat} (h : j ≤ xs.length) : (walkOf xs)[j]? = some xs[j]? := by
  unfold walkOf
  by_cases h1 : j < xs.length
  · rw [List.append_assoc, List.getElem?_append_left (by simpa using h1)]
    simp [h1]
  · have e : j = xs.length := by omega
    subst e
    rw [List.getElem?_append_left (by simp), List.getElem?_append_right (by simp)]
    simp
theorem walkOf_hi (xs : List Str) : (walkOf xs)[xs.length + 1]? = some xs[0]? := by
  unfold walkOf
  rw [List.getElem?_append_right (by simp)]
  cases xs <;> simp
theorem walkOf_ok {xs : List Str} (h : AllOk xs) : OptsOk (walkOf xs) := by
  have h1 : OptsOk (xs.map some ++ [none]) := optsOk_append (optsOk_map h) (optsOk_none optsOk_nil)
  refine optsOk_append h1 fun x hx => h1 x (List.mem_of_mem_take hx)
/-- what the groups' hash keeps of the walk -/
def LastAt (xs : List Str) (j : Nat) (lv : Value) : Prop := ((j = 0 ∨ j = xs.length + 1) ∧ lv = .none) ∨ (∃ i k t, j = i + 1 ∧ xs[i]? = some k ∧ lv = .str k t) ∨ j = xs.length + 2
theorem nodup_ne {xs : List Str} (h : xs.Nodup) {i i' : Nat} {x y : Str} (hi : xs[i]? = some x) (hlt : i' < i) (hy : xs[i']? = some y) : y ≠ x := by
  obtain ⟨h1, e1⟩ := List.getElem?_eq_some_iff.mp hi
  obtain ⟨h2, e2⟩ := List.getElem?_eq_some_iff.mp hy
  have := List.pairwise_iff_getElem.mp h i' i h2 h1 hlt
  rw [e1, e2] at this
  exact this
theorem last_first {xs : List Str} {j : Nat} {r : Value} (hj : j = 0 ∨ j = xs.length + 1) (h : OptStr r xs[0]?) : (walkOf xs)[j]? = some xs[0]? ∧ LastAt xs (j + 1) r := by
  rcases hj with rfl | rfl
  · refine ⟨walkOf_lo (Nat.zero_le _), ?_⟩
    cases hx : xs[0]? with
    | none =>
      rw [hx] at h
      have : xs = [] := by
        cases xs with
        | nil => rfl
        | cons _ _ => simp at hx
      subst this
      exact .inl ⟨.inr rfl, h⟩
    | some k =>
      rw [hx] at h
      obtain ⟨t, rfl⟩ := h
      exact .inr (.inl ⟨0, k, t, rfl, hx, rfl⟩)
  · exact ⟨walkOf_hi xs, .inr (.inr rfl)⟩
theorem last_on {xs : List Str} {i : Nat} {k : Str} {r : Value} (hi : xs[i]? = some k) (h : OptStr r xs[i + 1]?) : (walkOf xs)[i + 1]? = some xs[i + 1]? ∧ LastAt xs (i + 1 + 1) r := by
  obtain ⟨h1, _⟩ := List.getElem?_eq_some_iff.mp hi
  refine ⟨walkOf_lo h1, ?_⟩
  cases hx : xs[i + 1]? with
  | none =>
    rw [hx] at h
    have := List.getElem?_eq_none_iff.mp hx
    have e : i + 1 = xs.length := by omega
    exact .inl ⟨.inr (by omega), h⟩
  | some k =>
    rw [hx] at h
    obtain ⟨t, rfl⟩ := h
    exact .inr (.inl ⟨i + 1, k, t, rfl, hx, rfl⟩)
theorem News.under {h₀ h : Heap} {L : Addr} {a : Addr × Obj} {l l' : Led} (f : News h₀ L h l → News h₀ L h l') (N : News h₀ L h (a :: l)) : News h₀ L h (a :: l') := fun p hp => by
  rcases List.mem_cons.mp hp with rfl | hp
  · exact N _ (.head _)
  · exact f (fun q hq => N q (.tail _ hq)) p hp
/-- the hash of groups with its four elder elements -/
inductive ElderRep (w : World) (news : Led) (rn ed : Addr) : Prop
  | mk (o : Obj) (e1 e2 e3 e4 : Addr) (f0 : (ed, o) ∈ news) (f1 : (ed == sysModules) = false) (f2 : o.IsDictOf (PySem.strKind PG w) [(Str.ofString "x", .ref e1), (Str.ofString "y", .ref e2), (Str.ofString "z", .ref e3), (Str.ofString "w", .ref e4)]) (f3 : ScalarRep news rn (Str.ofString "x") e1) (f4 : ScalarRep news rn (Str.ofString "y") e2) (f5 : ScalarRep news rn (Str.ofString "z") e3) (f6 : ScalarRep news rn (Str.ofString "w") e4) : ElderRep w news rn ed
theorem ElderRep.mono {w : World} {news news' : Led} {rn ed : Addr} (h : ElderRep w news rn ed) (hs : ∀ p ∈ news, p ∈ news') : ElderRep w news' rn ed := by
  obtain ⟨o, e1, e2, e3, e4, a, lo, b, c, d, e, f⟩ := h
  exact ⟨o, e1, e2, e3, e4, hs _ a, lo, b, c.mono hs, d.mono hs, e.mono hs, f.mono hs⟩
theorem look_cons_ne {k k' x : Str} {ps : List (Str × Str)} (h : k' ≠ k) : look ((k', x) :: ps) k = look ps k := by
  simp [look, List.find?_cons, h]
theorem look_map : ∀ {ps : List (Str × Str)}, (ps.map (·.1)).Nodup → (ps.map (·.1)).map (look ps) = (ps.map (·.2)).map some
  | [], _ => rfl
  | (k, x) :: r, h => by
    simp only [List.map_cons, List.nodup_cons] at h ⊢
    have ih := look_map h.2
    have e1 : look ((k, x) :: r) k = some x := by simp [look, List.find?_cons]
    rw [e1]
    congr 1
    rw [← ih]
    apply List.map_congr_left
    intro a ha
    exact look_cons_ne fun e => h.1 (e ▸ ha)
theorem look_any {ps : List (Str × Str)} {k : Str} : (look ps k).isSome = (ps.map (·.1)).any (· == k) := by
  induction ps with
  | nil => rfl
  | cons p r ih =>
    obtain ⟨k', x⟩ := p
    by_cases h : k' = k
    · simp [look, List.find?_cons, h]
    · rw [look_cons_ne h, ih]
      simp [h]
section
open PySem.Calls
variable {prog : Program} {w : World} {A : Around} {E : Value → Shared → Prop} {s : Shared} {h₀ : Heap} {env : Env} {L : Addr} {m : Str → Option Value} {news : Led} {target : Expr} {body : List Stmt} {Q : Flow → Shared → Prop}
theorem Fr.hide {h : Heap} (fs : List Addr) (F : Fr h₀ L h m) : Fr (hideAll h₀ fs) L h m := ⟨F.ns, fun b o e => F.keep b o (of_hideAll _ e), by rw [hideAll_size]; exact F.above⟩
theorem News.hide {h : Heap} (fs : List Addr) (N : News h₀ L h news) : News (hideAll h₀ fs) L h news := fun p hp => by
  have z := N p hp
  refine ⟨z.1, z.2.1, ?_⟩
  cases e : (hideAll h₀ fs).get? p.1 with
  | none => rfl
  | some o => have := of_hideAll _ e; rw [z.2.2] at this; cases this
theorem For_hide {iter : Expr} {pos : Pos} {fs : List Addr} (D : KtsDicts fs h₀) (F : Fr h₀ env.locals s.heap m)
    (h : wpAny (model prog w) A (eval iter env) (fun xv s₁ => wpAny (model prog w) A (pyIter xv) (fun it s₂ => TurnsAt prog w A (hideAll h₀ fs) env target body Q E it s₂) E s₁) E s)
    (hs : ∀ x, foldedSetIterable iter env x = pure x)
    (hE : PassesOwn (model prog w) A env E) :
    wpAny (model prog w) A (exec (.For target iter body [] pos) env) Q E s := For_turns (Mine.Fr.hide fs F) h hs hE
end
section
variable {prog : Program} {w : World} {A : Around} {E : Value → Shared → Prop} {s : Shared} {h₀ : Heap} {L : Addr} {m : Str → Option Value} {news : Led}
theorem in_look {l : Addr} {vs : List Value} {n : Nat} {ps : List (Str × Str)} {k : Str} {t : Tok} {Q : Value → Shared → Prop} (N : News h₀ L s.heap news) (hm : (l, listOf vs.toArray n) ∈ news) (hi : StrsAre vs (ps.map (·.1)))
    (h : Q (.bool (look ps k).isSome) s) : wpAny (model prog w) A (compareOp .In (.str k t) (.ref l)) Q E s := in_strs_led N hm hi (by rw [← look_any]; exact h)
theorem ne_bool_same {b : Bool} {Q : Value → Shared → Prop} (h : Q (.bool false) s) : wpAny (model prog w) A (compareOp .NotEq (.bool b) (.bool b)) Q E s := SeqAt.RcNeAt.bool_bool b b prog w E Q (by simpa using h)
end
/-- the names that a loop stores may be anything, the rest stands -/
def KeepsN (stored : List Str) (m₀ m' : Str → Option Value) : Prop := ∀ z, stored.contains z = false → m' z = m₀ z
theorem fr_keepsN {h₀ h : Heap} {L : Addr} {stored : List Str} {m₀ m₁ : Str → Option Value} (hm : KeepsN stored m₀ m₁) (F : Fr h₀ L h m₁) : Fr h₀ L h (fun y => if stored.contains y then m₁ y else m₀ y) := by
  have e : (fun y => if stored.contains y then m₁ y else m₀ y) = m₁ := by
    funext y
    cases h2 : stored.contains y with
    | true => simp
    | false => simp only [Bool.false_eq_true, if_false]; exact (hm y h2).symm
  rw [e]
  exact F
theorem News.keep1 {h₀ h : Heap} {L : Addr} {a : Addr × Obj} {l l' : Led} (N : News h₀ L h (a :: l)) (hs : ∀ p ∈ l', p ∈ l) : News h₀ L h (a :: l') := fun p hp => by
  rcases List.mem_cons.mp hp with rfl | hp
  · exact N _ (.head _)
  · exact N p (.tail _ (hs p hp))
theorem fr_name {h₀ h : Heap} {L : Addr} {m : Str → Option Value} (_ : Fr h₀ L h m) : ∃ m', m' = m := ⟨m, rfl⟩
theorem kts_name {fs : List Addr} {g : Heap} (_ : KtsDicts fs g) : ∃ fs', fs' = fs := ⟨fs, rfl⟩
theorem kw8_all : True := by
  k_with "all" => (repeat' (first | with_reducible assumption | exact above_ne (by with_reducible assumption) (by with_reducible assumption) | exact gt_ne (by with_reducible assumption) | exact allLt_ne (by with_reducible assumption) | with_reducible refine forall_app ?_ ?_ | (refine List.forall_mem_cons.mpr ⟨?_, ?_⟩; (focus (dsimp only; first | assumption | exact Ne.symm (by assumption) | (apply Nat.ne_of_lt; assumption) | (apply Nat.ne_of_gt; assumption) | exact Nat.ne_of_lt (Nat.lt_succ_self _) | exact Nat.ne_of_gt (Nat.lt_succ_self _))))))
  trivial
theorem rs_sees : True := by
  w_top off
  trivial
set_option maxRecDepth 100000 in
set_option maxHeartbeats 8000000 in
theorem sees_spec {w : World} {sg sgd rn hp hpd ed : Addr} {mv : Value} {h1 h2 h3 j1 j2 j3 : Int} {t1 t2 t3 u1 u2 u3 : Tok} {lv lim zl : Value} {k : Int} {tk0 : Tok} {rest : Led} {cur : Option MD}
    (hC : CurRep w rest rn cur) (hM : MatchRep w rest mv cur) (hH : HeapRep rest rn hp hpd) (hK : CountRep w rest rn) (hE : ElderRep w rest rn ed) (g1 : (sg, instObj 499 sgd) ∈ rest) (hoff : ∀ p ∈ rest, p.1 ≠ sgd) (hoff2 : ∀ p ∈ rest, p.1 ≠ hpd) (hne : @Ne Nat sgd hpd) (hmv : handedIn mv = true) :
    SpecT w 764 [.ref rn, .ref sg, mv, .ref ed] ((sgd, sgO h1 h2 h3 t1 t2 t3 rn lv) :: (hpd, hpO j1 j2 j3 u1 u2 u3 lim zl k tk0) :: rest) 40 (fun r news' => ∃ k' tk', r = .bool true ∧ news' = (sgd, sgO h1 h2 h3 t1 t2 t3 rn .none) :: (hpd, hpO j1 j2 j3 u1 u2 u3 lim zl k' tk') :: rest) := by
  have hfl := foundC_len hC.okM
  have hok1 := foundC_ok1 hC.okM
  have hok2 := foundC_ok2 hC.okM
  have hnd := foundC_nodup hC.okM
  have hml : ((foundC cur).map (·.1)).length ≤ 3 := by rw [List.length_map]; exact hfl
  intro dp un gd cn cs a ccd cl outer A₀ base h₀ L m s mean mg mb Q E B F X N T XB TB D hk hd hu hret
  refine wpAny_call ?_
  refine' code_TC ?k1 ?k2 ?k3 ?k4 ?k5 ?XB ?TB ?D KtsTurn.refl ?kA ?kF ?kK ?k6 ?k7 ?k8 ?k9 ?kB ?kD ?_ ?c2 ?c3 ?c4
  case kA => exact rfl
  case kF => exact rfl
  case kK => assumption
  case k1 => k_asm
  case k2 => k_asm
  case k3 => k_asm
  case k4 => k_asm
  case k5 => k_asm
  case XB => assumption
  case TB => assumption
  case D => assumption
  case k6 => k_is
  case k7 => k_is
  case k8 => ktr_room
  case k9 => exact BindsTo.of_eq rfl
  case kB => exact rfl
  case kD => decide +kernel
  case c2 => exact rfl
  case c3 => exact rfl
  case c4 => exact rfl
  intro g' L' h' tk' cells' FG' F' N' Y' B' X' T' D' l1
  k_lt l1
  k_cells Y'
  simp only [List.cons_append, List.nil_append] at N'
  try dsimp only
  try k_lift B'
  try k_fold
  k_extra "fA"
  repeat' (first | (k_unfold; (try dsimp only)) | k_extra "r comps_2" | k_extra "r seesr_1" | (k_end; kc_close) | walk1 | (dsimp only; walk1) | (leave1; walk_say "STEP leave1"; (try dsimp only)))
  have zhB9 := trivial; have zhA9 := trivial; have zhb9 := trivial; have zhT9 := trivial; have zb9 := trivial; have znew9 := trivial; have zc9 := trivial; have zvs9 := trivial; have zld9 := trivial; have ztk9 := trivial; have zh9 := trivial
  rename_i y4 y6 oc dc ld vs c new b h9a tk9a hT hbld hA q1 q2 q3 hB hh1 F1 N1
  clear zhB9 zhA9 zhb9 zhT9 zb9 znew9 zc9 zvs9 zld9 ztk9 zh9
  refine CompSrcJ.list (its := vs) (k := c) (fun j ys nx => nx = (ld, listOf vs.toArray c) :: (L' + 1, oc) :: (sgd, sgO h1 h2 h3 t1 t2 t3 rn lv) :: (hpd, hpO j1 j2 j3 u1 u2 u3 lim zl k tk0) :: (new ++ rest) ∧ StrsAre ys (((foundC cur).map (·.1)).take j)) rfl rfl F1 N1 ?_ ?_ ?_ ?_ ?_ ?_
  · rintro j ys nx ⟨rfl, _⟩
    exact List.Mem.head _
  · rw [hT.len, sizeLine_eq]
    omega
  · rintro j ys nx ⟨_, hy⟩
    rw [strs_len hy, List.length_take]
    exact Nat.min_le_left _ _
  · exact ⟨rfl, by simpa using StrsAre.nil⟩
  · rintro g9 j v2 ys nx2 I2 oI2 C oC D2 m2 h2 tk2 E2 hj hv2 ⟨rfl, hy⟩ hC hm2 F3 N3 off3 ne3
    refine wpAny_tests_nil ?_
    rw [if_pos rfl]
    refine ex5 (hT.get hv2) ?_
    intro kk x tkk tx pa hz9
    refine an3 hz9 ?_
    clear hz9
    intro hve hps hmem
    subst hve
    k_unmd
    k_fold
    repeat' (first | (k_unfold; (try dsimp only)) | k_extra "r pairs_7" | (k_end; kc_close) | walk1 | (dsimp only; walk1) | (leave1; walk_say "STEP leave1"; (try dsimp only)))
    refine exI3 ⟨rfl, by k_asm, by k_asm, off3, rfl, ?_⟩
    rw [List.take_add_one, List.getElem?_map, hps]
    exact strs_push hy
  · rintro g9 ys nx2 ⟨rfl, hy⟩
    have hfull : ((foundC cur).map (·.1)).take vs.length = (foundC cur).map (·.1) := List.take_of_length_le (by rw [List.length_map, hT.len]; exact Nat.le_refl _)
    rw [hfull] at hy
    intro D2 hD3 tk3 F3 N3 o1
    simp only [LCg.Off1] at o1
    refine an5 o1 ?_
    clear o1
    intro z1 z2 z3 z4 z5
    have z3' := Ne.symm z3
    have z4' := Ne.symm z4
    have hyl := strs_len hy
    have hvl := hT.len
    rw [List.length_map] at hyl
    have y1 : @LT.lt Nat _ sgd ld := Nat.lt_of_lt_of_le q2 hbld
    have y2 : @LT.lt Nat _ hpd ld := Nat.lt_of_lt_of_le q3 hbld
    have y3 : @LT.lt Nat _ sgd (L' + 1) := Nat.lt_succ_of_lt y4
    have y5 : @LT.lt Nat _ hpd (L' + 1) := Nat.lt_succ_of_lt y6
    k_unmd
    repeat' (first | (k_unfold; (try dsimp only)) | k_extra "r seesr_3" | k_extra "r comps_2" | k_extra "r nextkey_1" | k_extra "r meths_2" | (k_end; kc_close) | walk1 | (dsimp only; walk1) | (leave1; walk_say "STEP leave1"; (try dsimp only)))
    any_goals (exfalso; omega)
    rename_i hh2 tk2a t1a u1a v1a hr hF4 hN4 hk4
    refine CompSrcJ.range (n := (foundC cur).length + 2) (news := (sgd, sgO h1 h2 h3 t1 t2 t3 rn .none) :: (D2, LCg.lst ys) :: (ld, listOf vs.toArray c) :: (L' + 1, oc) :: (hpd, hpO j1 j2 j3 u1 u2 u3 lim zl k tk0) :: (new ++ rest))
      (fun j ys2 nx => ∃ lvj, nx = (sgd, sgO h1 h2 h3 t1 t2 t3 rn lvj) :: (D2, LCg.lst ys) :: (ld, listOf vs.toArray c) :: (L' + 1, oc) :: (hpd, hpO j1 j2 j3 u1 u2 u3 lim zl k tk0) :: (new ++ rest) ∧ OptsAre ys2 ((walkOf ((foundC cur).map (·.1))).take j) ∧ LastAt ((foundC cur).map (·.1)) j lvj) rfl rfl hF4 (fun p hp => hN4 p (.tail _ hp)) hr ?_ ?_ ?_ ?_ ?_ ?_ ?_
    · exact small_one (by omega) (by omega) (by omega) (by omega)
    · rw [rangeSize_nat]
      omega
    · rw [sizeLine_eq]
      omega
    · rintro j ys2 nx ⟨lvj, _, hy2, _⟩
      rw [hy2.length, List.length_take]
      exact Nat.min_le_left _ _
    · exact ⟨_, rfl, by simpa using OptsAre.nil, .inl ⟨.inl rfl, rfl⟩⟩
    · rintro g9 j v2 ys2 nx2 I2 oI2 C oC D3 m2 h2a tk2 E2 hj ⟨t2a, rfl⟩ ⟨lvj, rfl, hy2, hlast⟩ hCn hm2 F3a N3a off3 ne3
      refine wpAny_tests_nil ?_
      rw [if_pos rfl]
      have off3b := off3
      simp only [LCg.Off3] at off3b
      obtain ⟨w1, _⟩ := off3b
      have w1a := Ne.symm w1.1
      have w1b := Ne.symm w1.2.1
      have w1c := Ne.symm w1.2.2
      have hsub : ∀ lvx, ∀ p ∈ (I2, oI2) :: (C, oC) :: (D3, LCg.lst ys2) :: (sgd, sgO h1 h2 h3 t1 t2 t3 rn lvx) :: (D2, LCg.lst ys) :: (ld, listOf vs.toArray c) :: (L' + 1, oc) :: (hpd, hpO j1 j2 j3 u1 u2 u3 lim zl k tk0) :: (new ++ rest), p ∈ (sgd, sgO h1 h2 h3 t1 t2 t3 rn lvx) :: (I2, oI2) :: (C, oC) :: (D3, LCg.lst ys2) :: (D2, LCg.lst ys) :: (ld, listOf vs.toArray c) :: (L' + 1, oc) :: (hpd, hpO j1 j2 j3 u1 u2 u3 lim zl k tk0) :: (new ++ rest) := by
        intro lvx p hp
        rw [List.mem_cons, List.mem_cons, List.mem_cons, List.mem_cons] at hp
        rcases hp with h | h | h | h | h
        · exact .tail _ (h ▸ .head _)
        · exact .tail _ (.tail _ (h ▸ .head _))
        · exact .tail _ (.tail _ (.tail _ (h ▸ .head _)))
        · exact h ▸ .head _
        · exact .tail _ (.tail _ (.tail _ (.tail _ h)))
      rcases hlast with ⟨hj0, rfl⟩ | ⟨i, kk, kt, rfl, hik, rfl⟩ | hj0
      · k_unmd
        k_fold
        repeat' (first | (k_unfold; (try dsimp only)) | k_extra "r nextkey_2" | k_extra "r comps_1" | (k_end; kc_close) | walk1 | (dsimp only; walk1) | (leave1; walk_say "STEP leave1"; (try dsimp only)))
        have zN9 := trivial; have zp9 := trivial; have zF9 := trivial; have ztk9 := trivial; have zh9 := trivial; have zr9 := trivial
        rename_i r5 h5 tk5 F5 p5 N5
        clear zN9 zp9 zF9 ztk9 zh9 zr9
        obtain ⟨e5, q5⟩ := last_first hj0 p5
        refine exI3 ⟨rfl, F5, News.sub1 N5 (hsub r5), off3, r5, rfl, ?_, q5⟩
        rw [List.take_add_one, e5]
        exact hy2.snoc p5
      · have hlt : ∀ i' y, i' < i → ((foundC cur).map (·.1))[i']? = some y → y ≠ kk := fun i' y h1 h2 => nodup_ne hnd hik h1 h2
        k_unmd
        k_fold
        repeat' (first | (k_unfold; (try dsimp only)) | k_extra "r nextkey_3" | k_extra "r comps_1" | (k_end; kc_close) | walk1 | (dsimp only; walk1) | (leave1; walk_say "STEP leave1"; (try dsimp only)))
        have zN9 := trivial; have zp9 := trivial; have zF9 := trivial; have ztk9 := trivial; have zh9 := trivial; have zr9 := trivial
        rename_i r5 h5 tk5 F5 p5 N5
        clear zN9 zp9 zF9 ztk9 zh9 zr9
        obtain ⟨e5, q5⟩ := last_on hik p5
        refine exI3 ⟨rfl, F5, News.sub1 N5 (hsub r5), off3, r5, rfl, ?_, q5⟩
        rw [List.take_add_one, e5]
        exact hy2.snoc p5
      · rw [List.length_map] at hj0
        omega
    · rintro g9 ys2 nx2 ⟨lvj, rfl, hy2, hlast⟩
      have hwf : (walkOf ((foundC cur).map (·.1))).take ((foundC cur).length + 2) = walkOf ((foundC cur).map (·.1)) := List.take_of_length_le (by rw [walkOf_len, List.length_map]; exact Nat.le_refl _)
      rw [hwf] at hy2
      have hwo := walkOf_ok hok1
      have hy2l := hy2.length
      rw [walkOf_len, List.length_map] at hy2l
      have hyo := strs_opts hy
      have hw2 : OptsAre (ys ++ [Value.none] ++ (ys ++ [Value.none]).take 1) (walkOf ((foundC cur).map (·.1))) := OptsAre.append (OptsAre.append hyo (.cons rfl .nil)) (OptsAre.take 1 (OptsAre.append hyo (.cons rfl .nil)))
      intro D4 hD4 tk4 F4 N4 o4
      simp only [LCg.Off1] at o4
      refine an6 o4 ?_
      clear o4
      intro x1 x2 x3 x4 x5 x6
      k_unmd
      iterate 36 (first | (k_unfold; (try dsimp only)) | k_extra "r seesr_5" | k_extra "r seesr_4" | k_extra "r seesr_3" | walk1 | (dsimp only; walk1))
      have zl9 := trivial; have zN9 := trivial; have zF9 := trivial; have zh9 := trivial; have zD9 := trivial
      rename_i D9 hh9 F9 N9 v1 v2 v3 v4 v5 v6 v7 v8 v9 v10 v11 v12 v13
      clear zl9 zN9 zF9 zh9 zD9
      clear v1 v2 v3 v4 v5 v6 v7 v8 v9 v10 v11 v12 v13
      replace N9 : News g' L' hh9 ((sgd, sgO h1 h2 h3 t1 t2 t3 rn lvj) :: (D2, LCg.lst ys) :: (ld, listOf vs.toArray c) :: (L' + 1, oc) :: (hpd, hpO j1 j2 j3 u1 u2 u3 lim zl k tk0) :: (new ++ rest)) := News.sub1 N9 (by intro p hp; k_mem)
      repeat' (first | (k_unfold; (try dsimp only)) | k_extra "r seesr_5" | k_extra "r seesr_3" | k_extra "r seesr_2" | k_extra "r comps_3" | (k_end; kc_close) | walk1 | (dsimp only; walk1) | (leave1; walk_say "STEP leave1"; (try dsimp only)))
      have zl9 := trivial; have zN9 := trivial; have zF9 := trivial; have zh9 := trivial; have zD9 := trivial; have zhB9 := trivial; have zhrl9 := trivial; have zhodl9 := trivial; have zhod9 := trivial; have zhev9 := trivial; have zhb9' := trivial; have zhb9 := trivial; have zhA9 := trivial; have zhbo9 := trivial; have zhR9 := trivial; have zb9 := trivial; have ztk9' := trivial; have k9 := trivial; have znew9 := trivial; have zc9 := trivial; have zvs9 := trivial; have zol9 := trivial; have ztk9 := trivial
      rename_i ol vs2 c2 new2 k2 tk2' b2 hh3 tk3x hR hb2 hb2' hbo hA2 hev hod hodl hrl w1 w2 w3 w4 hB2 hh4 Da hh5 w5 w6 w7 w8 w9 w10 w11 w12 w13 D5 hh6 F6 N6 p1 p2 p3 p4 p5 p6 p7 p8 p9 p10
      clear zl9 zN9 zF9 zh9 zD9 zhB9 zhrl9 zhodl9 zhod9 zhev9 zhb9' zhb9 zhA9 zhbo9 zhR9 zb9 ztk9' k9 znew9 zc9 zvs9 zol9 ztk9
      clear p1 p2 p3 p4 p5 p6 p7 p8 p9 p10 w5 w6 w7 w8 w9 w10 w11 w12 w13
      refine CompSrcJ.list (its := odds vs2) (k := 0) (news := (D5, listOf (odds vs2).toArray 0) :: (sgd, sgO h1 h2 h3 t1 t2 t3 rn .none) :: (hpd, hpO j1 j2 j3 u1 u2 u3 lim zl k2 tk2') :: (D2, LCg.lst ys) :: (ld, listOf vs.toArray c) :: (L' + 1, oc) :: (new2 ++ (new ++ rest)))
        (fun j ys3 nx => nx = (D5, listOf (odds vs2).toArray 0) :: (sgd, sgO h1 h2 h3 t1 t2 t3 rn .none) :: (hpd, hpO j1 j2 j3 u1 u2 u3 lim zl k2 tk2') :: (D2, LCg.lst ys) :: (ld, listOf vs.toArray c) :: (L' + 1, oc) :: (new2 ++ (new ++ rest)) ∧ OptsAre ys3 ((((foundC cur).map (·.1)).map (look (foundC cur))).take j)) rfl rfl F6 (News.sub1 N6 ?_) ?_ ?_ ?_ ?_ ?_ ?_
      · k_extra "m sub"
      · rintro j ys3 nx ⟨rfl, _⟩
        exact List.Mem.head _
      · rw [hodl, sizeLine_eq, List.length_map]
        omega
      · rintro j ys3 nx ⟨_, hy3⟩
        rw [hy3.length, List.length_take]
        exact Nat.min_le_left _ _
      · exact ⟨rfl, by simpa using OptsAre.nil⟩
      · rintro g9 j v2 ys3 nx2 I2 oI2 C oC D6 m2 h2a tk2 E2 hj hv2 ⟨rfl, hy3⟩ hCn hm2 F3a N3a off3 ne3
        refine wpAny_tests_nil ?_
        rw [if_pos rfl]
        obtain ⟨sc, x, rfl, hx, hS⟩ := hod.get hv2
        k_unmd
        k_fold
        repeat' (first | (k_unfold; (try dsimp only)) | k_extra "r valueof_1" | (k_end; kc_close) | walk1 | (dsimp only; walk1) | (leave1; walk_say "STEP leave1"; (try dsimp only)))
        refine exI3 ⟨rfl, by k_asm, by k_asm, off3, rfl, ?_⟩
        rw [List.take_add_one, List.getElem?_map, hx]
        exact hy3.snoc (by assumption)
      · rintro g9 ys3 nx2 ⟨rfl, hy3⟩
        have hfull2 : (((foundC cur).map (·.1)).map (look (foundC cur))).take (odds vs2).length = ((foundC cur).map (·.2)).map some := by
          rw [← look_map hnd, hodl]
          exact List.take_of_length_le (by rw [List.length_map]; exact Nat.le_refl _)
        rw [hfull2] at hy3
        intro D6 hD6 tk6 F7 N7 o7
        simp only [LCg.Off1] at o7
        refine an7 o7 ?_
        clear o7
        intro p1 p2 p3 p4 p5 p6 p7
        k_unmd
        repeat' (first | (k_unfold; (try dsimp only)) | k_extra "r comps_3" | (k_end; kc_close) | walk1 | (dsimp only; walk1) | (leave1; walk_say "STEP leave1"; (try dsimp only)))
        refine CompSrcJ.list (its := vs) (k := c) (news := (D6, LCg.lst ys3) :: (sgd, sgO h1 h2 h3 t1 t2 t3 rn .none) :: (hpd, hpO j1 j2 j3 u1 u2 u3 lim zl k2 tk2') :: (D2, LCg.lst ys) :: (ld, listOf vs.toArray c) :: (L' + 1, oc) :: (new2 ++ (new ++ rest)))
          (fun j ys4 nx => nx = (D6, LCg.lst ys3) :: (sgd, sgO h1 h2 h3 t1 t2 t3 rn .none) :: (hpd, hpO j1 j2 j3 u1 u2 u3 lim zl k2 tk2') :: (D2, LCg.lst ys) :: (ld, listOf vs.toArray c) :: (L' + 1, oc) :: (new2 ++ (new ++ rest)) ∧ StrsAre ys4 (((foundC cur).map (·.2)).take j)) rfl rfl F7 (News.d2 N7) ?_ ?_ ?_ ?_ ?_ ?_
        · rintro j ys4 nx ⟨rfl, _⟩
          k_mem
        · rw [hT.len, sizeLine_eq]
          omega
        · rintro j ys4 nx ⟨_, hy4⟩
          rw [strs_len hy4, List.length_take]
          exact Nat.min_le_left _ _
        · exact ⟨rfl, by simpa using StrsAre.nil⟩
        · rintro g9 j v2 ys4 nx2 I2 oI2 C oC D7 m2 h2a tk2 E2 hj hv2 ⟨rfl, hy4⟩ hCn hm2 F3a N3a off3 ne3
          refine wpAny_tests_nil ?_
          rw [if_pos rfl]
          refine ex5 (hT.get hv2) ?_
          intro kk x tkk tx pa hz9
          refine an3 hz9 ?_
          clear hz9
          intro hve hps hmem
          subst hve
          k_unmd
          k_fold
          repeat' (first | (k_unfold; (try dsimp only)) | k_extra "r pairs_7" | (k_end; kc_close) | walk1 | (dsimp only; walk1) | (leave1; walk_say "STEP leave1"; (try dsimp only)))
          refine exI3 ⟨rfl, by k_asm, by k_asm, off3, rfl, ?_⟩
          rw [List.take_add_one, List.getElem?_map, hps]
          exact strs_push hy4
        · rintro g9 ys4 nx2 ⟨rfl, hy4⟩
          have hfull3 : ((foundC cur).map (·.2)).take vs.length = (foundC cur).map (·.2) := List.take_of_length_le (by rw [List.length_map, hT.len]; exact Nat.le_refl _)
          rw [hfull3] at hy4
          intro D7 hD7 tk7 F8 N8 o8
          clear p1 p2 p3 p4 p5 p6 p7 x1 x2 x3 x4 x5 x6
          k_unmd
          repeat' (first | (k_unfold; (try dsimp only)) | k_extra "r seesr_6" | k_extra "r seesr_3" | (k_end; kc_close) | walk1 | (dsimp only; walk1) | (leave1; walk_say "STEP leave1"; (try dsimp only)))
          rename_i T9 hh9 F9 N9 a1 a2 a3 a4 a5 a6 a7 a8 a9 a10
          have hvs : ∃ ta tb tc td, News g' L' hh9 ((T9, tupO [.str (Str.ofString "x") ta, .str (Str.ofString "y") tb, .str (Str.ofString "z") tc, .str (Str.ofString "w") td]) :: (sgd, sgO h1 h2 h3 t1 t2 t3 rn .none) :: (hpd, hpO j1 j2 j3 u1 u2 u3 lim zl k2 tk2') :: (D2, LCg.lst ys) :: (ld, listOf vs.toArray c) :: (L' + 1, oc) :: (new ++ rest)) := ⟨_, _, _, _, News.keep1 N9 (by
            k_extra "m sub")⟩
          refine ex4 hvs ?_
          clear hvs
          intro ta tb tc td NL
          have hfr := frames_off B' NL
          obtain ⟨oe, e1, e2, e3, e4, he1, he2, he3, he4, he5, he6, he7⟩ := hE
          refine ungroundC B' KtsTurn.refl F9 NL ?_
          intro fe0 FH NH hfe0 hfx0 hfe0'
          obtain ⟨m9, hm9⟩ := fr_name F9
          obtain ⟨fs, hfs⟩ := kts_name D'
          rw [← hm9] at FH
          rw [← hfs] at FH NH hfe0 hfe0' hfr
          have hfrK : ∀ kk' tkk', ∀ p ∈ (T9, tupO [.str (Str.ofString "x") ta, .str (Str.ofString "y") tb, .str (Str.ofString "z") tc, .str (Str.ofString "w") td]) :: (sgd, sgO h1 h2 h3 t1 t2 t3 rn .none) :: (hpd, hpO j1 j2 j3 u1 u2 u3 lim zl kk' tkk') :: (D2, LCg.lst ys) :: (ld, listOf vs.toArray c) :: (L' + 1, oc) :: (new ++ rest), p.1 ∉ fs := by
            intro kk' tkk' p hp
            rw [List.mem_cons, List.mem_cons, List.mem_cons] at hp
            rcases hp with rfl | rfl | rfl | hp
            · exact hfr _ (.head _)
            · exact hfr _ (.tail _ (.head _))
            · exact hfr (hpd, hpO j1 j2 j3 u1 u2 u3 lim zl k2 tk2') (.tail _ (.tail _ (.head _)))
            · exact hfr _ (.tail _ (.tail _ (.tail _ hp)))
          rw [← hfs]
          refine enum_tupJ (vs := [.str (Str.ofString "x") ta, .str (Str.ofString "y") tb, .str (Str.ofString "z") tc, .str (Str.ofString "w") td]) (n := 0) (news := fe0 ++ _) (fun i m nx => ∃ kk tkk fe, nx = fe ++ ((T9, tupO [.str (Str.ofString "x") ta, .str (Str.ofString "y") tb, .str (Str.ofString "z") tc, .str (Str.ofString "w") td]) :: (sgd, sgO h1 h2 h3 t1 t2 t3 rn .none) :: (hpd, hpO j1 j2 j3 u1 u2 u3 lim zl kk tkk) :: (D2, LCg.lst ys) :: (ld, listOf vs.toArray c) :: (L' + 1, oc) :: (new ++ rest)) ∧
              FramesIn fs g' fe ∧ (∀ q ∈ fe, q.1 ∈ fs) ∧ KeepsN [Str.ofString "way", Str.ofString "name", Str.ofString "due", Str.ofString "one"] m9 m) rfl FH NH ?_ ?_ ?_ ?_ ?_
          · k_mem
          · rintro i m nx ⟨kk, tkk, fe, rfl, _⟩
            k_mem
          · exact exI3 (a3 := fe0) ⟨rfl, hfe0, hfe0', fun _ _ => rfl⟩
          · intro i x t T m₁ nx h tk I₁ I₂ o₁ o₂ hx hJ9 ho FX NX hTT
            refine ex3 hJ9 ?_
            clear hJ9
            intro kk tkk fe hJ9
            refine an4 hJ9 ?_
            clear hJ9
            intro hE9 hfe hfe' hkeep
            subst hE9
            replace FX : Fr (hideAll g' fs) L' h m₁ := FX
            replace NX : News (hideAll g' fs) L' h _ := NX
            have offK : ∀ kk' tkk', ∀ p ∈ (T9, tupO [.str (Str.ofString "x") ta, .str (Str.ofString "y") tb, .str (Str.ofString "z") tc, .str (Str.ofString "w") td]) :: (sgd, sgO h1 h2 h3 t1 t2 t3 rn .none) :: (hpd, hpO j1 j2 j3 u1 u2 u3 lim zl kk' tkk') :: (D2, LCg.lst ys) :: (ld, listOf vs.toArray c) :: (L' + 1, oc) :: (new ++ rest), p.1 ≠ I₁ ∧ p.1 ≠ I₂ := by
              intro kk' tkk' p hp
              rw [List.mem_cons, List.mem_cons, List.mem_cons] at hp
              rcases hp with rfl | rfl | rfl | hp
              · exact ho _ (List.mem_append_right _ (.head _))
              · exact ho _ (List.mem_append_right _ (.tail _ (.head _)))
              · exact ho (hpd, hpO j1 j2 j3 u1 u2 u3 lim zl kk tkk) (List.mem_append_right _ (.tail _ (.tail _ (.head _))))
              · exact ho _ (List.mem_append_right _ (.tail _ (.tail _ (.tail _ hp))))
            have hX9 : ∃ nm tn e, x = .str nm tn ∧ valueAt [(Str.ofString "x", Value.ref e1), (Str.ofString "y", .ref e2), (Str.ofString "z", .ref e3), (Str.ofString "w", .ref e4)] nm = some (.ref e) ∧ ScalarRep rest rn nm e ∧ ((i : Int) = 0 ∨ (i : Int) = 1 ∨ (i : Int) = 2 ∨ (i : Int) = 3) := by
              rcases i with _ | _ | _ | _ | i
              · exact exI3 (a3 := e1) ⟨(Option.some.inj hx).symm, by rfl, he4, .inl rfl⟩
              · exact exI3 (a3 := e2) ⟨(Option.some.inj hx).symm, by rfl, he5, .inr (.inl rfl)⟩
              · exact exI3 (a3 := e3) ⟨(Option.some.inj hx).symm, by rfl, he6, .inr (.inr (.inl rfl))⟩
              · exact exI3 (a3 := e4) ⟨(Option.some.inj hx).symm, by rfl, he7, .inr (.inr (.inr rfl))⟩
              · simp at hx
            refine ex3 hX9 ?_
            clear hX9
            intro nm tn e hX9
            refine an4 hX9 ?_
            clear hX9
            intro hE9 hel hSe hk4
            subst hE9
            have hI1 : I₁ ∉ fs := by rw [hfs] at hfe ⊢; exact not_frame B' hfe (fun p hp => (ho p hp).1)
            have hI2 : I₂ ∉ fs := by rw [hfs] at hfe ⊢; exact not_frame B' hfe (fun p hp => (ho p hp).2)
            have FX2 := fr_keepsN hkeep FX
            have NX2 : News (hideAll g' fs) L' h (fe ++ ((I₁, o₁) :: (I₂, o₂) :: (T9, tupO [.str (Str.ofString "x") ta, .str (Str.ofString "y") tb, .str (Str.ofString "z") tc, .str (Str.ofString "w") td]) :: (sgd, sgO h1 h2 h3 t1 t2 t3 rn .none) :: (hpd, hpO j1 j2 j3 u1 u2 u3 lim zl kk tkk) :: (D2, LCg.lst ys) :: (ld, listOf vs.toArray c) :: (L' + 1, oc) :: (new ++ rest))) := News.sub1 NX (by
              intro p hp
              rcases List.mem_append.mp hp with hp | hp
              · exact .tail _ (.tail _ (List.mem_append_left _ hp))
              · rcases List.mem_cons.mp hp with rfl | hp
                · exact .head _
                · rcases List.mem_cons.mp hp with rfl | hp
                  · exact .tail _ (.head _)
                  · exact .tail _ (.tail _ (List.mem_append_right _ hp)))
            clear FX NX FH NH F9 NL N9
            refine regroundC B' (hfs ▸ FX2) (hfs ▸ NX2) (hfs ▸ hfe) (by
              intro q hq
              rw [← hfs]
              rcases List.mem_cons.mp hq with rfl | hq
              · exact hI1
              · rcases List.mem_cons.mp hq with rfl | hq
                · exact hI2
                · exact hfrK _ _ q hq) XB TB D' ?_
            intro g9 kt9 FG9 NG9 BG9 XG9 TG9 DG9
            clear FX2 NX2
            refine turnT_end (fs := frs (envX cn cs L a ccd cl :: outer)) (A₀ := ktrTop dp un gd cn cs L a ccd cl outer) (base := base) (outer := envX cn cs L a ccd cl :: outer) (h₀ := g') (J := fun m' nx' => ∃ kk' tkk', nx' = (I₁, o₁) :: (I₂, o₂) :: (T9, tupO [.str (Str.ofString "x") ta, .str (Str.ofString "y") tb, .str (Str.ofString "z") tc, .str (Str.ofString "w") td]) :: (sgd, sgO h1 h2 h3 t1 t2 t3 rn .none) :: (hpd, hpO j1 j2 j3 u1 u2 u3 lim zl kk' tkk') :: (D2, LCg.lst ys) :: (ld, listOf vs.toArray c) :: (L' + 1, oc) :: (new ++ rest) ∧ KeepsN [Str.ofString "way", Str.ofString "name", Str.ofString "due", Str.ofString "one"] m9 m') ?_ ?_
            · intro s₃ hT9
              refine an2 hT9 ?_
              clear hT9
              intro _ hT9
              refine ex5 hT9 ?_
              clear hT9
              intro h' tk' m' nx' g₂ hT9
              refine an6 hT9 ?_
              clear hT9
              intro hE9 ktz Fz Nz Bz hT9
              subst hE9
              refine ex2 hT9 ?_
              clear hT9
              intro kk' tkk' hT9
              refine an2 hT9 ?_
              clear hT9
              intro hE9 hkz
              subst hE9
              refine ungroundC Bz ktz Fz Nz ?_
              intro fe' FU NU hfu hfu' hfu2
              rw [← hfs] at FU NU hfu hfu2
              refine ⟨h', tk', m', _, rfl, FU, News.sub1 NU ?_, ?_, kk', tkk', fe', rfl, hfu, hfu2, hkz⟩
              · k_extra "m sub"
              · intro p hp q hq
                have hq1 : q.1 = I₁ ∨ q.1 = I₂ := by
                  rcases List.mem_cons.mp hq with rfl | hq
                  · exact .inl rfl
                  · exact .inr (by rw [List.mem_singleton.mp hq])
                have hp1 : p.1 ≠ I₁ ∧ p.1 ≠ I₂ := by
                  rcases List.mem_append.mp hp with hp | hp
                  · exact ⟨fun e => hI1 (e ▸ hfu2 p hp), fun e => hI2 (e ▸ hfu2 p hp)⟩
                  · exact offK _ _ p hp
                rcases hq1 with e | e
                · rw [e]; exact hp1.1
                · rw [e]; exact hp1.2
            · rw [hm9] at FG9
              have i1 : @Ne Nat hpd I₁ := (offK kk tkk (hpd, hpO j1 j2 j3 u1 u2 u3 lim zl kk tkk) (.tail _ (.tail _ (.head _)))).1
              have i2 : @Ne Nat hpd I₂ := (offK kk tkk (hpd, hpO j1 j2 j3 u1 u2 u3 lim zl kk tkk) (.tail _ (.tail _ (.head _)))).2
              clear hM hfr offK hfrK ho hfe hfe' hfe0 hfe0' hev hod hR hodl hrl
              k_unmd
              repeat' (first | (k_unfold; (try dsimp only)) | k_extra "r seesr_9" | k_extra "r seesr_8" | k_extra "r seesr_11" | k_extra "r seesr_10" | k_extra "r seesr_7" | k_extra "r elem_1" | k_extra "r valueof_1" | k_extra "r meths_1" | k_extra "r rules_4" | k_extra "r macros_4" | (k_end; kc_close) | walk1 | (dsimp only; walk1) | (leave1; walk_say "STEP leave1"; (try dsimp only)))
              with_reducible rename KtsTurn _ _ _ => kt5
              with_reducible rename Fr _ _ _ _ => F5
              with_reducible rename News _ _ _ _ => N5
              with_reducible rename Below _ _ _ _ => B5
              obtain ⟨tz, N6⟩ : ∃ tz, News _ L' _ ((hpd, hpO j1 j2 j3 u1 u2 u3 lim zl (kk + 1) tz) :: (I₁, o₁) :: (I₂, o₂) :: (T9, tupO [.str (Str.ofString "x") ta, .str (Str.ofString "y") tb, .str (Str.ofString "z") tc, .str (Str.ofString "w") td]) :: (sgd, sgO h1 h2 h3 t1 t2 t3 rn .none) :: (D2, LCg.lst ys) :: (ld, listOf vs.toArray c) :: (L' + 1, oc) :: (new ++ rest)) := ⟨_, News.keep1 N5 (by
                k_extra "m sub")⟩
              refine ⟨rfl, ?q1, ?q2, ?q3, (I₁, o₁) :: (I₂, o₂) :: (T9, tupO [.str (Str.ofString "x") ta, .str (Str.ofString "y") tb, .str (Str.ofString "z") tc, .str (Str.ofString "w") td]) :: (sgd, sgO h1 h2 h3 t1 t2 t3 rn .none) :: (hpd, hpO j1 j2 j3 u1 u2 u3 lim zl (kk + 1) tz) :: (D2, LCg.lst ys) :: (ld, listOf vs.toArray c) :: (L' + 1, oc) :: (new ++ rest), ?q5, ?qa, ?qb, ?qc, ?qd, ?qe, ?qf⟩
              case qa => exact rfl
              case qb => exact kt5
              case qc => exact F5
              case qe => exact B5
              case qd =>
                refine News.sub1 N6 ?_
                intro p hp
                rw [List.mem_cons, List.mem_cons, List.mem_cons, List.mem_cons, List.mem_cons] at hp
                rcases hp with rfl | rfl | rfl | rfl | rfl | h
                · exact .tail _ (.head _)
                · exact .tail _ (.tail _ (.head _))
                · exact .tail _ (.tail _ (.tail _ (.head _)))
                · exact .tail _ (.tail _ (.tail _ (.tail _ (.head _))))
                · exact .head _
                · exact .tail _ (.tail _ (.tail _ (.tail _ (.tail _ h))))
              case qf =>
                refine ⟨kk + 1, tz, rfl, ?_⟩
                rw [hm9]
                intro z hz
                have z1 : z ≠ Str.ofString "way" := fun e => by subst e; simp at hz
                have z2 : z ≠ Str.ofString "name" := fun e => by subst e; simp at hz
                have z3 : z ≠ Str.ofString "due" := fun e => by subst e; simp at hz
                have z4 : z ≠ Str.ofString "one" := fun e => by subst e; simp at hz
                simp only [if_neg z1, if_neg z2, if_neg z3, if_neg z4, hz, Bool.false_eq_true, if_false]
          · intro m₁ nx h tk hJ9 FX NX
            refine ex3 hJ9 ?_
            clear hJ9
            intro kk tkk fe hJ9
            refine an4 hJ9 ?_
            clear hJ9
            intro hE9 hfe hfe' hkeep
            subst hE9
            replace FX : Fr (hideAll g' fs) L' h m₁ := FX
            replace NX : News (hideAll g' fs) L' h _ := NX
            have FX2 := fr_keepsN hkeep FX
            clear FX FH NH F9 NL N9
            refine regroundC B' (hfs ▸ FX2) (hfs ▸ NX) (hfs ▸ hfe) (by
              intro q hq
              rw [← hfs]
              exact hfrK _ _ q hq) XB TB D' ?_
            intro g9 kt9 FG9 NG9 BG9 XG9 TG9 DG9
            clear FX2 NX
            rw [hm9] at FG9
            clear hM hfr hfrK hfe hfe' hfe0 hfe0' hev hod hR hodl hrl hkeep
            subst hfs
            k_unmd
            k_steps
            with_reducible rename KtsTurn _ _ _ => kt5
            with_reducible rename Fr _ _ _ _ => F5
            with_reducible rename News _ _ _ _ => N5
            with_reducible rename Below _ _ _ _ => B5
            with_reducible rename Frag.In _ _ => X5
            with_reducible rename Top _ _ _ _ _ _ => T5
            with_reducible rename KtsDicts _ _ => D5x
            exact hret _ _ _ _ _ kt5 F5 (News.sub1 N5 (by
              k_extra "m sub")) B5 X5 T5 D5x ⟨kk, tkk, rfl, rfl⟩
theorem rs_setm2 : True := by
  w_top off
  trivial
theorem run_match {w : World} {A : Around} {E : Value → Shared → Prop} {s : Shared} {h₀ : Heap} {L : Addr} {m : Str → Option Value} {news : Led} {rn rnd hp ct st sv pd : Addr} {es : List DictEntry} {n : Nat} {mv v : Value} {Q : Unit → Shared → Prop}
    (F : Fr h₀ L s.heap m) (X₀ : (Mine.k.heap_1 w.params).In h₀) (N : News h₀ L s.heap ((rnd, dictOf es n) :: news)) (hm : (rn, instObj 623 rnd) ∈ news) (hoff : ∀ p ∈ news, p.1 ≠ rnd) (R : RunEs es hp ct st sv pd mv)
    (h : ∀ h' es' n' tk, Fr h₀ L h' m → News h₀ L h' ((rnd, dictOf es' n') :: news) → RunEs es' hp ct st sv pd v → Q () { s with heap := h', toks := tk }) : wpAny (model PG w) A (setAttr (.ref rn) "match" v) Q E s := by
  refine set_dict (K := Mine.k.heap_1 w.params) F X₀ N (InstAt.of_news N (.tail _ hm) (.head _)) rfl (by k_is) (by k_is) (by k_is) (by k_is) ?_ rfl (Upd.head hoff) ?_ fun h' F' N' => h h' _ _ _ F' N' R.put
  · rw [show getL "match" es = some (some mv) from R.mtch]
    rfl
  · rw [show (putL "match" _ _ v es).length = es.length from putL_len R.mtch]
    exact Nat.le_trans R.len (by decide)
local macro_rules | `(tactic| k_handed) => `(tactic| k_extra "handed")
theorem kw9_all : True := by
  k_with "handed" => with_reducible assumption
  trivial
set_option maxRecDepth 100000 in
set_option maxHeartbeats 8000000 in
theorem last_patternX {w : World} {rn rnd hp ct st sv pd : Addr} {es : List DictEntry} {n pn : Nat} {mv : Value} {po : Option Value} {news : Led} (R : RunEs es hp ct st sv pd mv)
    (h1 : (rn, instObj 623 rnd) ∈ news) (h2 : (rnd, dictOf es n) ∈ news) (lo : (pd == sysModules) = false) (h4 : (pd, patX w po pn) ∈ news) :
    Spec w 220 [.ref rn] news 4 (fun r news' => r = po.getD .none ∧ news' = news) := by
  have h3 := R.patterns
  intro dp un gd cn cs a ccd cl outer A₀ base h₀ L m s mean mg mb Q E B F X N T hk hd hu hret
  refine wpAny_call ?_
  k_dflt (refine' code_def (binds := [(Str.ofString "run", .ref rn)]) ?k1 ?k2 ?k3 ?k4 ?k5 ?kA ?kF ?kK ?k6 ?k7 ?k8 ?k9 ?kB ?_ ?c2 ?c3 ?c4 ?c5; k_extra "m def")
  repeat' (first | (k_unfold; (try dsimp only)) | k_extra "r setm2_2" | k_extra "r setm2_1" | (k_end; kc_close) | walk1 | (dsimp only; walk1) | (leave1; walk_say "STEP leave1"; (try dsimp only)))
  all_goals exact hret _ _ _ _ (by with_reducible assumption) (by with_reducible assumption) ⟨rfl, rfl⟩
set_option maxRecDepth 100000 in
set_option maxHeartbeats 8000000 in
theorem save_match_spec {w : World} {rn rnd hp ct st sv pd : Addr} {es : List DictEntry} {n pn c : Nat} {mv : Value} {po : Option Value} {svs : List Value} {rest : Led} (R : RunEs es hp ct st sv pd mv) (hmv : handedIn mv = true)
    (h1 : (rn, instObj 623 rnd) ∈ rest) (h2 : (rnd, dictOf es n) ∈ rest) (lo : (pd == sysModules) = false) (h4 : (pd, patX w po pn) ∈ rest) (hoff : ∀ p ∈ rest, p.1 ≠ sv) (hl : svs.length ≤ 10) :
    Spec w 227 [.ref rn] ((sv, listOf svs.toArray c) :: rest) 12 (fun r news' => ∃ t tt c', r = .none ∧ news' = (sv, listOf (svs ++ [Value.ref t]).toArray c') :: (t, tupO [.str (Str.ofString "match") tt, mv, po.getD .none]) :: rest ∧ sv < t ∧ ∀ p ∈ rest, p.1 < t) := by
  have h3 := R.saves
  have h5 := R.mtch
  intro dp un gd cn cs a ccd cl outer A₀ base h₀ L m s mean mg mb Q E B F X N T hk hd hu hret
  refine wpAny_call ?_
  k_dflt (refine' code_def (binds := [(Str.ofString "run", .ref rn)]) ?k1 ?k2 ?k3 ?k4 ?k5 ?kA ?kF ?kK ?k6 ?k7 ?k8 ?k9 ?kB ?_ ?c2 ?c3 ?c4 ?c5; k_extra "m def")
  repeat' (first | (k_unfold; (try dsimp only)) | k_extra "r setm2_5" | (k_end; kc_close) | walk1 | (dsimp only; walk1) | (leave1; walk_say "STEP leave1"; (try dsimp only)))
  with_reducible rename News _ _ _ _ => kN9
  with_reducible rename Fr _ _ _ _ => kF9
  simp only [List.push_toArray] at kN9
  exact hret _ _ _ _ kF9 (News.swap kN9) ⟨_, _, _, rfl, rfl, by assumption, allLt_mem (by assumption)⟩
set_option maxRecDepth 100000 in
set_option maxHeartbeats 8000000 in
theorem set_match_spec {w : World} {rn rnd hp ct st sv pd : Addr} {es : List DictEntry} {n pn c : Nat} {mv tv gv : Value} {po : Option Value} {svs : List Value} {rest : Led} (R : RunEs es hp ct st sv pd mv) (hmv : handedIn mv = true)
    (h1 : (rn, instObj 623 rnd) ∈ rest) (lo : (pd == sysModules) = false) (hl : svs.length ≤ 10)
    (o1 : ∀ p ∈ rest, p.1 ≠ rnd) (o2 : ∀ p ∈ rest, p.1 ≠ pd) (o3 : ∀ p ∈ rest, p.1 ≠ sv) (n1 : @Ne Nat rnd pd) (n2 : @Ne Nat rnd sv) (n3 : @Ne Nat pd sv) :
    Spec w 234 [.ref rn, tv, gv] ((rnd, dictOf es n) :: (pd, patX w po pn) :: (sv, listOf svs.toArray c) :: rest) 24 (fun r news' => ∃ es' n' pn' t tt c', r = .none ∧ news' = (rnd, dictOf es' n') :: (pd, patX w (some gv) pn') :: (sv, listOf (svs ++ [Value.ref t]).toArray c') :: (t, tupO [.str (Str.ofString "match") tt, mv, po.getD .none]) :: rest ∧
      RunEs es' hp ct st sv pd tv ∧ rnd < t ∧ pd < t ∧ sv < t ∧ ∀ p ∈ rest, p.1 < t) := by
  have h5 := R.patterns
  intro dp un gd cn cs a ccd cl outer A₀ base h₀ L m s mean mg mb Q E B F X N T hk hd hu hret
  refine wpAny_call ?_
  k_dflt (refine' code_def (binds := [(Str.ofString "run", .ref rn), (Str.ofString "told", tv), (Str.ofString "program", gv)]) ?k1 ?k2 ?k3 ?k4 ?k5 ?kA ?kF ?kK ?k6 ?k7 ?k8 ?k9 ?kB ?_ ?c2 ?c3 ?c4 ?c5; k_extra "m def")
  repeat' (first | (k_unfold; (try dsimp only)) | k_extra "r setm2_3" | k_extra "r setm2_6" | k_extra "r setm2_4" | (k_end; kc_close) | walk1 | (dsimp only; walk1) | (leave1; walk_say "STEP leave1"; (try dsimp only)))
  with_reducible rename News _ _ _ _ => kN9
  with_reducible rename Fr _ _ _ _ => kF9
  with_reducible rename RunEs _ _ _ _ _ _ _ => kR9
  exact hret _ _ _ _ kF9 (News.swap kN9) ⟨_, _, _, _, _, _, rfl, rfl, kR9, by assumption, by assumption, by assumption, allLt_mem (by assumption)⟩
theorem rs_leave : True := by
  w_top off
  trivial
set_option maxRecDepth 100000 in
set_option maxHeartbeats 8000000 in
theorem undo_match_spec {w : World} {rn rnd hp ct st sv pd t : Addr} {es : List DictEntry} {n pn : Nat} {mv mv0 pv0 : Value} {tt : Tok} {po : Option Value} {rest : Led} (R : RunEs es hp ct st sv pd mv)
    (h1 : (rn, instObj 623 rnd) ∈ rest) (h2 : (t, tupO [.str (Str.ofString "match") tt, mv0, pv0]) ∈ rest) (o1 : ∀ p ∈ rest, p.1 ≠ rnd) (o2 : ∀ p ∈ rest, p.1 ≠ pd) (n1 : @Ne Nat rnd pd) :
    Spec w 311 [.ref rn, .ref t] ((rnd, dictOf es n) :: (pd, patX w po pn) :: rest) 12 (fun r news' => ∃ es' n' pn', r = .none ∧ news' = (rnd, dictOf es' n') :: (pd, patX w (some pv0) pn') :: rest ∧ RunEs es' hp ct st sv pd mv0) := by
  have h5 := R.patterns
  intro dp un gd cn cs a ccd cl outer A₀ base h₀ L m s mean mg mb Q E B F X N T hk hd hu hret
  refine wpAny_call ?_
  k_dflt (refine' code_def (binds := [(Str.ofString "run", .ref rn), (Str.ofString "save", .ref t)]) ?k1 ?k2 ?k3 ?k4 ?k5 ?kA ?kF ?kK ?k6 ?k7 ?k8 ?k9 ?kB ?_ ?c2 ?c3 ?c4 ?c5; k_extra "m def")
  repeat' (first | (k_unfold; (try dsimp only)) | k_extra "r pairs_7" | k_extra "r setm2_3" | k_extra "r setm2_4" | (k_end; kc_close) | walk1 | (dsimp only; walk1) | (leave1; walk_say "STEP leave1"; (try dsimp only)))
  with_reducible rename News _ _ _ _ => kN9
  with_reducible rename Fr _ _ _ _ => kF9
  with_reducible rename RunEs _ _ _ _ _ _ _ => kR9
  exact hret _ _ _ _ kF9 (News.swap kN9) ⟨_, _, _, rfl, rfl, kR9⟩
set_option maxRecDepth 100000 in
set_option maxHeartbeats 8000000 in
theorem leave_spec {w : World} {rn rnd hp ct st sv pd t : Addr} {es : List DictEntry} {n pn c : Nat} {mv mv0 pv0 : Value} {tt mt : Tok} {mk : Int} {po : Option Value} {svs : List Value} {rest : Led} (R : RunEs es hp ct st sv pd mv)
    (h1 : (rn, instObj 623 rnd) ∈ rest) (h2 : (t, tupO [.str (Str.ofString "match") tt, mv0, pv0]) ∈ rest) (hmk : mk = svs.length) (hl : svs.length ≤ 10)
    (o1 : ∀ p ∈ rest, p.1 ≠ rnd) (o2 : ∀ p ∈ rest, p.1 ≠ pd) (o3 : ∀ p ∈ rest, p.1 ≠ sv) (n1 : @Ne Nat rnd pd) (n2 : @Ne Nat rnd sv) (n3 : @Ne Nat pd sv) :
    Spec w 326 [.ref rn, .int mk mt] ((rnd, dictOf es n) :: (pd, patX w po pn) :: (sv, listOf (svs ++ [Value.ref t]).toArray c) :: rest) 24 (fun r news' => ∃ es' n' pn' c', r = .none ∧ news' = (rnd, dictOf es' n') :: (pd, patX w (some pv0) pn') :: (sv, listOf svs.toArray c') :: rest ∧ RunEs es' hp ct st sv pd mv0) := by
  have h5 := R.patterns
  have h6 := R.saves
  have hll : (svs ++ [Value.ref t]).length = svs.length + 1 := by simp
  intro dp un gd cn cs a ccd cl outer A₀ base h₀ L m s mean mg mb Q E B F X N T hk hd hu hret
  refine wpAny_call ?_
  k_dflt (refine' code_def (binds := [(Str.ofString "run", .ref rn), (Str.ofString "mark", .int mk mt)]) ?k1 ?k2 ?k3 ?k4 ?k5 ?kA ?kF ?kK ?k6 ?k7 ?k8 ?k9 ?kB ?_ ?c2 ?c3 ?c4 ?c5; k_extra "m def")
  k_steps
  have hb1 : decide (mk < (((svs ++ [Value.ref t]).length : Nat) : Int)) = true := by
    rw [hll]
    exact decide_eq_true (by omega)
  rw [hb1]
  repeat' (first | (k_unfold; (try dsimp only)) | k_extra "r pairs_7" | k_extra "r leave_1" | k_extra "r setm_1" | (k_end; kc_close) | walk1 | (dsimp only; walk1) | (leave1; walk_say "STEP leave1"; (try dsimp only)))
  have hb2 : decide (mk < ((svs.length : Nat) : Int)) = false := decide_eq_false (by omega)
  rw [hb2]
  k_steps
  with_reducible rename News _ _ _ _ => kN9
  with_reducible rename Fr _ _ _ _ => kF9
  with_reducible rename RunEs _ _ _ _ _ _ _ => kR9
  exact hret _ _ _ _ kF9 kN9 ⟨_, _, _, _, rfl, rfl, kR9⟩
theorem rs_matchr : True := by
  w_top off
  trivial
/-! The match that _law_match builds -/
theorem abc_len {i : Int} (h0 : 0 ≤ i) (h1 : i < 8) : ((Txt.slice (Str.ofString "abcdefgh") none (some (1 + i))).length : Int) = 1 + i ∧ PyData.strOk (Txt.slice (Str.ofString "abcdefgh") none (some (1 + i))) = true := by
  refine ⟨?_, slice_ok (by decide +kernel) _ _⟩
  have hl : (Str.ofString "abcdefgh").cps.toList.length = 8 := by decide
  have hs := eq_of_beq (slice_closes_to (x := Str.ofString "abcdefgh") (j := 1 + i) ⟨by omega, by rw [hl]; omega⟩)
  rw [hs]
  simp only [Str.length, List.size_toArray, List.length_take, List.length_drop, hl]
  omega
theorem ints_push {v : Int} {t : Tok} : ∀ {vs : List Value} {xs : List Int}, IntsAre vs xs → IntsAre (vs ++ [.int v t]) (xs ++ [v])
  | _, _, .nil => .cons _ _ .nil
  | _, _, .cons y t h => .cons y t (ints_push h)
structure Row where
  nm : Str
  ad : Addr
  vs : List Value
  is : List Int
  n : Nat
noncomputable def rowsL (rows : List Row) : Led := rows.map fun r => (r.ad, listOf r.vs.toArray r.n)
noncomputable def rowsK (rows : List Row) : List (Str × Value) := rows.map fun r => (r.nm, Value.ref r.ad)
noncomputable def rowsN (rows : List Row) : List (Str × List Int) := rows.map fun r => (r.nm, r.is)
noncomputable def menu : List Str := [Str.ofString "x", Str.ofString "y", Str.ofString "z"]
structure RowsOk (i : Nat) (rows : List Row) : Prop where
  rInts : ∀ r ∈ rows, IntsAre r.vs r.is
  rBnd : ∀ r ∈ rows, ∀ j ∈ r.is, 1 ≤ j ∧ j ≤ (i : Int)
  rLen : ∀ r ∈ rows, r.is.length ≤ i
  rNms : ∀ r ∈ rows, r.nm ∈ menu
  rNod : (rows.map (·.nm)).Nodup
  rAds : (rows.map (·.ad)).Nodup
theorem nodup_len : ∀ (l m : List Str), l.Nodup → (∀ x ∈ l, x ∈ m) → l.length ≤ m.length
  | [], _, _, _ => Nat.zero_le _
  | x :: r, m, hn, hs => by
    have hx := hs x (.head _)
    rw [List.nodup_cons] at hn
    have ih := nodup_len r (m.erase x) hn.2 fun y hy => (List.mem_erase_of_ne (fun e => hn.1 (by subst e; exact hy))).mpr (hs y (.tail _ hy))
    rw [List.length_erase_of_mem hx] at ih
    have : 0 < m.length := List.length_pos_of_mem hx
    simp only [List.length_cons]
    omega
theorem RowsOk.count {i : Nat} {rows : List Row} (h : RowsOk i rows) : rows.length ≤ 3 := by
  have := nodup_len (rows.map (·.nm)) menu h.rNod fun x hx => by
    obtain ⟨r, hr, rfl⟩ := List.mem_map.mp hx
    exact h.rNms r hr
  simpa [menu] using this
theorem RowsOk.nil : RowsOk 0 [] := ⟨fun _ h => (nomatch h), fun _ h => (nomatch h), fun _ h => (nomatch h), fun _ h => (nomatch h), List.nodup_nil, List.nodup_nil⟩
theorem RowsOk.up {i : Nat} {rows : List Row} (h : RowsOk i rows) : RowsOk (i + 1) rows :=
  ⟨h.rInts, fun r hr j hj => ⟨(h.rBnd r hr j hj).1, by have := (h.rBnd r hr j hj).2; omega⟩, fun r hr => Nat.le_succ_of_le (h.rLen r hr), h.rNms, h.rNod, h.rAds⟩
theorem RowsOk.push {i : Nat} {rows : List Row} (h : RowsOk i rows) {k : Str} {T : Addr} {t : Tok} {n : Nat} (hk : k ∈ menu) (hn : k ∉ rows.map (·.nm)) (hT : ∀ r ∈ rows, r.ad ≠ T) :
    RowsOk (i + 1) (rows ++ [⟨k, T, [.int (1 + (i : Int)) t], [1 + (i : Int)], n⟩]) where
  rInts r hr := by
    rcases List.mem_append.mp hr with hr | hr
    · exact h.rInts r hr
    · rw [List.mem_singleton.mp hr]; exact .cons _ _ .nil
  rBnd r hr j hj := by
    rcases List.mem_append.mp hr with hr | hr
    · exact h.up.rBnd r hr j hj
    · rw [List.mem_singleton.mp hr] at hj
      rw [List.mem_singleton.mp hj]
      omega
  rLen r hr := by
    rcases List.mem_append.mp hr with hr | hr
    · exact h.up.rLen r hr
    · rw [List.mem_singleton.mp hr]; simp
  rNms r hr := by
    rcases List.mem_append.mp hr with hr | hr
    · exact h.rNms r hr
    · rw [List.mem_singleton.mp hr]; exact hk
  rNod := by
    rw [List.map_append]
    exact List.nodup_append.mpr ⟨h.rNod, by simp, fun a ha b hb e => hn (by simp at hb; subst hb; exact e ▸ ha)⟩
  rAds := by
    rw [List.map_append]
    refine List.nodup_append.mpr ⟨h.rAds, by simp, fun a ha b hb e => ?_⟩
    obtain ⟨r, hr, rfl⟩ := List.mem_map.mp ha
    simp at hb
    subst hb
    exact hT r hr e
theorem RowsOk.add {i : Nat} {r1 r2 : List Row} {r : Row} (h : RowsOk i (r1 ++ r :: r2)) {t : Tok} {n : Nat} :
    RowsOk (i + 1) (r1 ++ ⟨r.nm, r.ad, r.vs ++ [.int (1 + (i : Int)) t], r.is ++ [1 + (i : Int)], n⟩ :: r2) where
  rInts q hq := by
    rcases List.mem_append.mp hq with hq | hq
    · exact h.rInts q (List.mem_append_left _ hq)
    · rcases List.mem_cons.mp hq with rfl | hq
      · exact ints_push (h.rInts r (List.mem_append_right _ (.head _)))
      · exact h.rInts q (List.mem_append_right _ (.tail _ hq))
  rBnd q hq j hj := by
    rcases List.mem_append.mp hq with hq | hq
    · exact h.up.rBnd q (List.mem_append_left _ hq) j hj
    · rcases List.mem_cons.mp hq with rfl | hq
      · rcases List.mem_append.mp hj with hj | hj
        · exact h.up.rBnd r (List.mem_append_right _ (.head _)) j hj
        · rw [List.mem_singleton.mp hj]; omega
      · exact h.up.rBnd q (List.mem_append_right _ (.tail _ hq)) j hj
  rLen q hq := by
    rcases List.mem_append.mp hq with hq | hq
    · exact h.up.rLen q (List.mem_append_left _ hq)
    · rcases List.mem_cons.mp hq with rfl | hq
      · have := h.rLen r (List.mem_append_right _ (.head _))
        simp only [List.length_append, List.length_cons, List.length_nil]
        omega
      · exact h.up.rLen q (List.mem_append_right _ (.tail _ hq))
  rNms q hq := by
    rcases List.mem_append.mp hq with hq | hq
    · exact h.rNms q (List.mem_append_left _ hq)
    · rcases List.mem_cons.mp hq with rfl | hq
      · exact h.rNms r (List.mem_append_right _ (.head _))
      · exact h.rNms q (List.mem_append_right _ (.tail _ hq))
  rNod := by simpa using h.rNod
  rAds := by simpa using h.rAds
theorem rows_at {k : Str} {rows : List Row} (h : k ∈ rows.map (·.nm)) : ∃ r1 r r2, rows = r1 ++ r :: r2 ∧ r.nm = k := by
  obtain ⟨r, hr, e⟩ := List.mem_map.mp h
  obtain ⟨r1, r2, q⟩ := List.append_of_mem hr
  exact ⟨r1, r, r2, q, e⟩
theorem rowsK_none {k : Str} : ∀ {rows : List Row}, k ∉ rows.map (·.nm) → valueAt (rowsK rows) k = none
  | [], _ => rfl
  | r :: rs, h => by
    simp only [List.map_cons, List.mem_cons, not_or] at h
    have ih := rowsK_none h.2
    simp only [rowsK, List.map_cons, valueAt] at ih ⊢
    rw [List.find?_cons_of_neg (by simpa using Ne.symm h.1)]
    exact ih
theorem rowsK_keys (rows : List Row) : (rowsK rows).map (·.1) = rows.map (·.nm) := by simp [rowsK]
theorem rowsK_push {k : Str} {T : Addr} {rows : List Row} {r : Row} (h : k ∉ rows.map (·.nm)) (e1 : r.nm = k) (e2 : r.ad = T) : stored (rowsK rows) k (.ref T) = rowsK (rows ++ [r]) := by
  rw [stored_new (by rw [rowsK_keys]; exact h)]
  simp [rowsK, e1, e2]
theorem rowsL_mid (r1 r2 : List Row) (r : Row) : rowsL (r1 ++ r :: r2) = rowsL r1 ++ (r.ad, listOf r.vs.toArray r.n) :: rowsL r2 := by simp [rowsL]
/-- the values of the list of groups -/
def GVals (news : Led) (vs : List Value) (gs : List (Option (Int × Int))) : Prop := vs.length = gs.length ∧ ∀ (i : Nat) (g : Option (Int × Int)), gs[i]? = some g → ∃ v : Value, vs[i]? = some v ∧ GVal news v g
theorem GVals.mono {news news' : Led} {vs : List Value} {gs : List (Option (Int × Int))} (h : GVals news vs gs) (hs : ∀ p ∈ news, p ∈ news') : GVals news' vs gs :=
  ⟨h.1, fun i g e => by obtain ⟨v, hv, q⟩ := h.2 i g e; exact ⟨v, hv, q.mono hs⟩⟩
theorem GVals.snoc {news : Led} {vs : List Value} {gs : List (Option (Int × Int))} {v : Value} {g : Option (Int × Int)} (h : GVals news vs gs) (hv : GVal news v g) : GVals news (vs ++ [v]) (gs ++ [g]) := by
  refine ⟨by simp [h.1], fun i g' e => ?_⟩
  by_cases hi : i < gs.length
  · rw [List.getElem?_append_left hi] at e
    obtain ⟨u, hu, q⟩ := h.2 i g' e
    exact ⟨u, by rw [List.getElem?_append_left (by rw [h.1]; exact hi)]; exact hu, q⟩
  · have hi' : i = gs.length := by
      have := (List.getElem?_eq_some_iff.mp e).1
      simp at this
      omega
    subst hi'
    rw [List.getElem?_append_right (Nat.le_refl _)] at e
    simp at e
    subst e
    exact ⟨v, by rw [List.getElem?_append_right (by rw [h.1]; exact Nat.le_refl _)]; simp [h.1], hv⟩
def GsOk (len : Int) (gs : List (Option (Int × Int))) : Prop := ∀ b e, some (b, e) ∈ gs → 0 ≤ b ∧ b ≤ e ∧ e ≤ len
theorem GsOk.none {len : Int} {gs : List (Option (Int × Int))} (h : GsOk len gs) : GsOk len (gs ++ [none]) := fun b e hm => by
  rcases List.mem_append.mp hm with hm | hm
  · exact h b e hm
  · simp at hm
theorem GsOk.some {len b e : Int} {gs : List (Option (Int × Int))} (h : GsOk len gs) (h0 : 0 ≤ b) (h1 : b ≤ e) (h2 : e ≤ len) : GsOk len (gs ++ [some (b, e)]) := fun b' e' hm => by
  rcases List.mem_append.mp hm with hm | hm
  · exact h b' e' hm
  · simp at hm
    obtain ⟨rfl, rfl⟩ := hm
    exact ⟨h0, h1, h2⟩
theorem md_ok {text : Str} {gs : List (Option (Int × Int))} {rows : List Row} {i : Nat} (ht : text.length ≤ 8) (hi : i ≤ 4) (hg : gs.length = i + 1) (hgs : GsOk text.length gs) (hr : RowsOk i rows) (hs : PyData.strOk text = true) : MD.Ok ⟨text, gs, rowsN rows⟩ where
  tlen := ht
  glen := by show gs.length ≤ 5; omega
  gok := hgs
  nlen := by show (rowsN rows).length ≤ 3; simpa [rowsN] using hr.count
  nodup := by show ((rowsN rows).map (·.1)).Nodup; rw [rowsN, List.map_map]; exact hr.rNod
  tok := hs
  nok p hp := by
    obtain ⟨r, hr', rfl⟩ := List.mem_map.mp hp
    have := hr.rNms r hr'
    simp only [menu, List.mem_cons, List.not_mem_nil, or_false] at this
    rcases this with e | e | e <;> (show PyData.strOk r.nm = true; rw [e]; decide +kernel)
  idx p hp := by
    obtain ⟨r, hr', rfl⟩ := List.mem_map.mp hp
    refine ⟨Nat.le_trans (hr.rLen r hr') hi, fun j hj => ?_⟩
    have := hr.rBnd r hr' j hj
    show 0 ≤ j ∧ j < (gs.length : Int)
    omega
theorem rows_rep {w : World} {news : Led} {nd : Addr} {od : Obj} {rows : List Row} {i : Nat} {text : Str} {gs : List (Option (Int × Int))} (h1 : (nd, od) ∈ news) (lo : (nd == sysModules) = false) (hd : od.IsDictOf (PySem.strKind PG w) (rowsK rows)) (hr : RowsOk i rows) (hs : ∀ p ∈ rowsL rows, p ∈ news) :
    NRep w news nd ⟨text, gs, rowsN rows⟩ := by
  refine ⟨od, rowsK rows, h1, lo, hd, by simp [rowsK, rowsN], fun j name is e => ?_⟩
  have e' : (rowsN rows)[j]? = some (name, is) := e
  rw [rowsN, List.getElem?_map] at e'
  cases hj : rows[j]? with
  | none => rw [hj] at e'; cases e'
  | some r =>
    rw [hj] at e'
    simp only [Option.map_some, Option.some.injEq, Prod.mk.injEq] at e'
    obtain ⟨rfl, rfl⟩ := e'
    have hm := List.mem_of_getElem? hj
    exact ⟨r.ad, r.vs, r.n, by rw [rowsK, List.getElem?_map, hj]; rfl, hs _ (List.mem_map.mpr ⟨r, hm, rfl⟩), hr.rInts r hm⟩
section
variable {prog : Program} {w : World} {A : Around} {E : Value → Shared → Prop} {s : Shared} {h₀ : Heap} {L : Addr} {news : Led}
theorem menu_led {value slice : PySem.Expr} {T : Addr} {t1 t2 t3 t4 : Tok} {k : Int} {u : Tok} {Q : Value → Shared → Prop} (N : News h₀ L s.heap news) (hm : (T, tupO [.str (Str.ofString "x") t1, .str (Str.ofString "y") t2, .str (Str.ofString "z") t3, .str (Str.ofString "") t4]) ∈ news) (h0 : 0 ≤ k) (h4 : k < 4)
    (h : ∀ nm t, nm = Str.ofString "" ∨ nm ∈ menu → Q (.str nm t) s)
    (hs : subscripted slice false (.ref T) (.int k u) = operate [.ref T, .int k u] (getItem (.ref T) (.int k u))) :
    wpAny (model prog w) A (subscriptTail value slice (.ref T) (.int k u)) Q E s := by
  have hk : k = 0 ∨ k = 1 ∨ k = 2 ∨ k = 3 := by omega
  rcases hk with rfl | rfl | rfl | rfl
  · exact tup_led N hm (by decide) (by decide) (by rfl) (by rfl) (h _ _ (.inr (by simp [menu]))) hs
  · exact tup_led N hm (by decide) (by decide) (by rfl) (by rfl) (h _ _ (.inr (by simp [menu]))) hs
  · exact tup_led N hm (by decide) (by decide) (by rfl) (by rfl) (h _ _ (.inr (by simp [menu]))) hs
  · exact tup_led N hm (by decide) (by decide) (by rfl) (by rfl) (h _ _ (.inl rfl)) hs
end

theorem rowsK_len (rows : List Row) : (rowsK rows).length = rows.length := by simp [rowsK]
section
variable {w : World} {A : Around} {E : Value → Shared → Prop} {s : Shared} {h₀ : Heap} {L : Addr} {m : Str → Option Value} {news : Led}
theorem setdef_rows {nd T : Addr} {od : Obj} {rows : List Row} {k : Str} {t : Tok} {Q : Value → Shared → Prop}
    (F : Fr h₀ L s.heap m) (N : News h₀ L s.heap ((nd, od) :: news)) (hoff : ∀ p ∈ news, p.1 ≠ nd) (hd : od.IsDictOf (PySem.strKind PG w) (rowsK rows)) (lo : (nd == sysModules) = false) (hz : rows.length ≤ 3)
    (h1 : ∀ r1 r r2, rows = r1 ++ r :: r2 → r.nm = k → Q (.ref r.ad) { s with toks := s.toks + 1 })
    (h2 : k ∉ rows.map (·.nm) → ∀ h' o', Fr h₀ L h' m → News h₀ L h' ((nd, o') :: news) → o'.IsDictOf (PySem.strKind PG w) (rowsK rows ++ [(k, .ref T)]) → Q (.ref T) { s with heap := h', toks := s.toks + 1 }) :
    wpAny (model PG w) A (call (.builtin "dict.setdefault") [.ref nd, .str k t, .ref T]) Q E s := by
  by_cases hk : k ∈ rows.map (·.nm)
  · obtain ⟨r1, r, r2, e, hr⟩ := rows_at hk
    refine kob_setdef_there (knd := PySem.strKind PG w) N (.head _) hd lo (strKind_is _ _ _ _) (PySem.F.args_dict_setdefault_3 _ _ _) (v := .ref r.ad) ?_ ?_ (h1 r1 r r2 e hr)
    · exact valueAt_of_get hd (i := r1.length) (by rw [e]; simp [rowsK, hr])
    · rw [rowsK_len, sizeLine_eq]; omega
  · refine kob_setdef_new (knd := PySem.strKind PG w) F N (UpdF.head hoff) hd lo (strKind_is _ _ _ _) (PySem.F.args_dict_setdefault_3 _ _ _) (rowsK_none hk) ?_ fun h' o' F' N' hd' => h2 hk h' o' F' N' ?_
    · rw [rowsK_len, sizeLine_eq]; omega
    · rw [stored_new (by rw [rowsK_keys]; exact hk)] at hd'
      exact hd'
end
theorem rs_matchd : True := by
  w_top off
  trivial
section
theorem rowsL_gt {rows : List Row} {d : Addr} (h : ∀ r ∈ rows, @LT.lt Nat _ d r.ad) : ∀ p ∈ rowsL rows, @LT.lt Nat _ d p.1 := fun p hp => by
  obtain ⟨r, hr, rfl⟩ := List.mem_map.mp hp
  exact h r hr
theorem rowsL_ne {rows : List Row} {d e : Addr} (h : ∀ r ∈ rows, @LT.lt Nat _ d r.ad) (he : @LT.lt Nat _ e d) : ∀ p ∈ rowsL rows, p.1 ≠ e := fun p hp => Nat.ne_of_gt (Nat.lt_trans he (rowsL_gt h p hp))
/-- what stands between two turns of _law_match -/
inductive MatchJ (w : World) (rk sl dn lg D : Addr) (text : Str) (rest : Led) (i : Nat) (nx : Led) : Prop
  | mk (k' : Int) (tk' : Tok) (nn' : Nat) (od : Obj) (gv : List Value) (gs : List (Option (Int × Int))) (gn : Nat) (rows : List Row) (new : Led) (f0 : nx = (rk, listOf #[.ref sl, .int k' tk'] nn') :: (dn, od) :: (lg, listOf gv.toArray gn) :: (rowsL rows ++ (new ++ rest))) (f1 : 0 ≤ k') (f2 : gs.length = i + 1) (f3 : GVals new gv gs) (f4 : GsOk text.length gs) (f5 : RowsOk i rows) (f6 : od.IsDictOf (PySem.strKind PG w) (rowsK rows)) (f7 : (∀ r ∈ rows, @LT.lt Nat _ dn r.ad)) (f8 : (∀ r ∈ rows, ∀ q ∈ new, q.1 ≠ r.ad)) (f9 : ∀ q ∈ new, @LE.le Nat _ D q.1 ∧ q.1 ≠ lg ∧ q.1 ≠ dn) : MatchJ w rk sl dn lg D text rest i nx
theorem MatchJ.start {w : World} {rk sl dn lg D : Addr} {text : Str} {rest : Led} {k' : Int} {tk' tb te : Tok} {nn' : Nat} {od : Obj} (h0 : 0 ≤ k') (hl : 0 ≤ (text.length : Int)) (hd : od.IsDictOf (PySem.strKind PG w) []) (h1 : @LT.lt Nat _ D lg) (h2 : @LT.lt Nat _ D dn) :
    MatchJ w rk sl dn lg D text rest 0 ((rk, listOf #[.ref sl, .int k' tk'] nn') :: (dn, od) :: (lg, listOf #[.ref D] 0) :: (D, tupO [.int 0 tb, .int text.length te]) :: rest) := by
  refine ⟨k', tk', nn', od, [.ref D], [some (0, text.length)], 0, [], [(D, tupO [.int 0 tb, .int text.length te])], rfl, h0, rfl, ⟨rfl, fun i g e => ?_⟩, fun b e hm => ?_, RowsOk.nil, hd, (fun _ h => nomatch h), (fun _ h => nomatch h), fun q hq => ?_⟩
  · cases i with
    | zero => simp at e; subst e; exact ⟨_, rfl, D, tb, te, rfl, .head _⟩
    | succ i => simp at e
  · simp at hm
    obtain ⟨rfl, rfl⟩ := hm
    exact ⟨Int.le_refl _, hl, Int.le_refl _⟩
  · rw [List.mem_singleton.mp hq]
    exact ⟨Nat.le_refl _, Nat.ne_of_lt h1, Nat.ne_of_lt h2⟩
structure TurnF (text : Str) (D lg dn : Addr) (rows : List Row) (new : Led) (gv : List Value) (gs : List (Option (Int × Int))) (i : Nat) : Prop where
  gl : gs.length = i + 2
  gvs : GVals new gv gs
  go : GsOk text.length gs
  na : ∀ r ∈ rows, ∀ q ∈ new, q.1 ≠ r.ad
  nb : ∀ q ∈ new, @LE.le Nat _ D q.1 ∧ q.1 ≠ lg ∧ q.1 ≠ dn
section
variable {w : World} {rk sl dn lg D : Addr} {text : Str} {rest new : Led} {i : Nat} {k' : Int} {tk' : Tok} {nn' gn : Nat} {od : Obj} {gv : List Value} {gs : List (Option (Int × Int))} {rows : List Row}
theorem TurnF.none (J2 : gs.length = i + 1) (J3 : GVals new gv gs) (J4 : GsOk text.length gs) (J8 : ∀ r ∈ rows, ∀ q ∈ new, q.1 ≠ r.ad) (J9 : ∀ q ∈ new, @LE.le Nat _ D q.1 ∧ q.1 ≠ lg ∧ q.1 ≠ dn) :
    TurnF text D lg dn rows new (gv ++ [.none]) (gs ++ [.none]) i := ⟨by simp [J2], J3.snoc rfl, J4.none, J8, J9⟩
theorem TurnF.some {b e : Int} {tb te : Tok} {Dp : Addr} (J2 : gs.length = i + 1) (J3 : GVals new gv gs) (J4 : GsOk text.length gs) (J8 : ∀ r ∈ rows, ∀ q ∈ new, q.1 ≠ r.ad) (J9 : ∀ q ∈ new, @LE.le Nat _ D q.1 ∧ q.1 ≠ lg ∧ q.1 ≠ dn)
    (h0 : 0 ≤ b) (h1 : b ≤ e) (h2 : e ≤ text.length) (hD : @LT.lt Nat _ D lg) (p3 : @LT.lt Nat _ dn Dp) (p4 : @LT.lt Nat _ lg Dp) (pR : AllLt Dp (rowsL rows)) :
    TurnF text D lg dn rows ((Dp, tupO [.int b tb, .int e te]) :: new) (gv ++ [.ref Dp]) (gs ++ [.some (b, e)]) i := by
  refine ⟨by simp [J2], (J3.mono fun p hp => .tail _ hp).snoc ⟨Dp, tb, te, rfl, .head _⟩, J4.some h0 h1 h2, fun r hr q hq => ?_, fun q hq => ?_⟩
  · rcases List.mem_cons.mp hq with rfl | hq
    · exact Nat.ne_of_gt (allLt_mem pR (r.ad, listOf r.vs.toArray r.n) (List.mem_map.mpr ⟨r, hr, rfl⟩))
    · exact J8 r hr q hq
  · rcases List.mem_cons.mp hq with rfl | hq
    · exact ⟨Nat.le_of_lt (Nat.lt_trans hD p4), Nat.ne_of_gt p4, Nat.ne_of_gt p3⟩
    · exact J9 q hq
theorem MatchJ.same (f : TurnF text D lg dn rows new gv gs i) (h0 : 0 ≤ k') (J5 : RowsOk i rows) (J6 : od.IsDictOf (PySem.strKind PG w) (rowsK rows)) (J7 : ∀ r ∈ rows, @LT.lt Nat _ dn r.ad) :
    MatchJ w rk sl dn lg D text rest (i + 1) ((rk, listOf #[.ref sl, .int k' tk'] nn') :: (dn, od) :: (lg, listOf gv.toArray gn) :: (rowsL rows ++ (new ++ rest))) :=
  ⟨_, _, _, _, _, _, _, rows, new, rfl, h0, f.gl, f.gvs, f.go, J5.up, J6, J7, f.na, f.nb⟩
theorem MatchJ.there {r1 r2 : List Row} {r : Row} {t : Tok} {n : Nat} (f : TurnF text D lg dn (r1 ++ r :: r2) new gv gs i) (h0 : 0 ≤ k') (J5 : RowsOk i (r1 ++ r :: r2)) (J6 : od.IsDictOf (PySem.strKind PG w) (rowsK (r1 ++ r :: r2))) (J7 : ∀ q ∈ r1 ++ r :: r2, @LT.lt Nat _ dn q.ad) :
    MatchJ w rk sl dn lg D text rest (i + 1) ((rk, listOf #[.ref sl, .int k' tk'] nn') :: (dn, od) :: (lg, listOf gv.toArray gn) :: (rowsL (r1 ++ ⟨r.nm, r.ad, r.vs ++ [.int (1 + (i : Int)) t], r.is ++ [1 + (i : Int)], n⟩ :: r2) ++ (new ++ rest))) := by
  refine ⟨_, _, _, _, _, _, _, _, new, rfl, h0, f.gl, f.gvs, f.go, J5.add, by simpa [rowsK] using J6, fun q hq => ?_, fun q hq => ?_, f.nb⟩
  · rcases List.mem_append.mp hq with hq | hq
    · exact J7 q (List.mem_append_left _ hq)
    · rcases List.mem_cons.mp hq with rfl | hq
      · exact J7 r (List.mem_append_right _ (.head _))
      · exact J7 q (List.mem_append_right _ (.tail _ hq))
  · rcases List.mem_append.mp hq with hq | hq
    · exact f.na q (List.mem_append_left _ hq)
    · rcases List.mem_cons.mp hq with rfl | hq
      · exact f.na r (List.mem_append_right _ (.head _))
      · exact f.na q (List.mem_append_right _ (.tail _ hq))
theorem MatchJ.more {k : Str} {T : Addr} {t : Tok} {n : Nat} (f : TurnF text D lg dn rows new gv gs i) (h0 : 0 ≤ k') (J5 : RowsOk i rows) (J6 : od.IsDictOf (PySem.strKind PG w) (rowsK rows ++ [(k, .ref T)])) (J7 : ∀ r ∈ rows, @LT.lt Nat _ dn r.ad)
    (hk : k ∈ menu) (hn : k ∉ rows.map (·.nm)) (h1 : @LT.lt Nat _ dn T) (h2 : AllLt T (rowsL rows)) (h3 : AllLt T new) :
    MatchJ w rk sl dn lg D text rest (i + 1) ((rk, listOf #[.ref sl, .int k' tk'] nn') :: (dn, od) :: (lg, listOf gv.toArray gn) :: (rowsL (rows ++ [⟨k, T, [.int (1 + (i : Int)) t], [1 + (i : Int)], n⟩]) ++ (new ++ rest))) := by
  refine ⟨_, _, _, _, _, _, _, _, new, rfl, h0, f.gl, f.gvs, f.go, J5.push hk hn fun r hr => ?_, by simpa [rowsK] using J6, fun q hq => ?_, fun q hq => ?_, f.nb⟩
  · exact Nat.ne_of_lt (allLt_mem h2 (r.ad, listOf r.vs.toArray r.n) (List.mem_map.mpr ⟨r, hr, rfl⟩))
  · rcases List.mem_append.mp hq with hq | hq
    · exact J7 q hq
    · rw [List.mem_singleton.mp hq]; exact h1
  · rcases List.mem_append.mp hq with hq | hq
    · exact f.na q hq
    · rw [List.mem_singleton.mp hq]
      exact fun p hp => Nat.ne_of_lt (allLt_mem h3 p hp)
theorem rows_apart {r1 r2 : List Row} {r : Row} (h : RowsOk i (r1 ++ r :: r2)) : (∀ p ∈ rowsL r1, p.1 ≠ r.ad) ∧ ∀ p ∈ rowsL r2, p.1 ≠ r.ad := by
  have hn := h.rAds
  rw [List.map_append, List.map_cons, List.nodup_append, List.nodup_cons] at hn
  obtain ⟨_, ⟨h2, _⟩, h3⟩ := hn
  refine ⟨fun p hp e => ?_, fun p hp e => ?_⟩
  · obtain ⟨q, hq, rfl⟩ := List.mem_map.mp hp
    exact h3 q.ad (List.mem_map.mpr ⟨q, hq, rfl⟩) r.ad (.head _) e
  · obtain ⟨q, hq, rfl⟩ := List.mem_map.mp hp
    exact h2 (List.mem_map.mpr ⟨q, hq, e⟩)
theorem rowsL_app (a b : List Row) : rowsL (a ++ b) = rowsL a ++ rowsL b := by simp [rowsL]
theorem rowsL_one (r : Row) : rowsL [r] = [(r.ad, listOf r.vs.toArray r.n)] := rfl
theorem in_mid {r1 r2 : List Row} {r : Row} {L : Led} : (r.ad, listOf r.vs.toArray r.n) ∈ rowsL (r1 ++ r :: r2) ++ L := List.mem_append_left _ (List.mem_map.mpr ⟨r, List.mem_append_right _ (.head _), rfl⟩)
theorem sb_r1 {r1 r2 : List Row} {r : Row} {L : Led} : ∀ p ∈ rowsL r1, p ∈ rowsL (r1 ++ r :: r2) ++ L := fun p hp => List.mem_append_left _ (by rw [rowsL_mid]; exact List.mem_append_left _ hp)
theorem sb_r2 {r1 r2 : List Row} {r : Row} {L : Led} : ∀ p ∈ rowsL r2, p ∈ rowsL (r1 ++ r :: r2) ++ L := fun p hp => List.mem_append_left _ (by rw [rowsL_mid]; exact List.mem_append_right _ (.tail _ hp))
theorem sb_mid {r1 r2 : List Row} {r : Row} {L : Led} (h1 : ∀ p ∈ rowsL r1, p ∈ L) (h2 : (r.ad, listOf r.vs.toArray r.n) ∈ L) (h3 : ∀ p ∈ rowsL r2, p ∈ L) : ∀ p ∈ rowsL (r1 ++ r :: r2), p ∈ L := by rw [rowsL_mid]; exact sb_app h1 (sb_cons h2 h3)
theorem sb_snoc {r1 : List Row} {r : Row} {L : Led} (h1 : ∀ p ∈ rowsL r1, p ∈ L) (h2 : (r.ad, listOf r.vs.toArray r.n) ∈ L) : ∀ p ∈ rowsL (r1 ++ [r]), p ∈ L := by rw [rowsL_app, rowsL_one]; exact sb_app h1 (sb_cons h2 sb_nil)
theorem nm_menu {nm : Str} (h : nm = Str.ofString "" ∨ nm ∈ menu) (hne : (nm != Str.ofString "") = true) : nm ∈ menu := h.resolve_left fun e => by rw [e] at hne; exact absurd hne (by decide)
end
set_option maxRecDepth 100000 in
set_option maxHeartbeats 8000000 in
theorem match_spec {w : World} {rk sl : Addr} {vs : List Value} {ns : List Int} {k : Int} {tk : Tok} {nn n₁ : Nat} {rest : Led}
    (hl : (sl, listOf vs.toArray n₁) ∈ rest) (hi : IntsAre vs ns) (hb : ns.length ≤ 40) (h0 : 0 ≤ k) (hoff : ∀ p ∈ rest, p.1 ≠ rk) :
    Spec w 747 [.ref rk] ((rk, listOf #[.ref sl, .int k tk] nn) :: rest) 16 (fun r news' => ∃ M k' tk' nn' new b, news' = (rk, listOf #[.ref sl, .int k' tk'] nn') :: (new ++ rest) ∧ 0 ≤ k' ∧ MatchRep w new r (some M) ∧ handedIn r = true ∧ (rk < b ∧ ∀ p ∈ rest, p.1 < b) ∧ Above b new) := by
  intro dp un gd cn cs a ccd cl outer A₀ base h₀ L m s mean mg mb Q E B F X N T hk hd hu hret
  refine wpAny_call ?_
  k_dflt (refine' code_def (binds := [(Str.ofString "rack", .ref rk)]) ?k1 ?k2 ?k3 ?k4 ?k5 ?kA ?kF ?kK ?k6 ?k7 ?k8 ?k9 ?kB ?_ ?c2 ?c3 ?c4 ?c5; k_extra "m def")
  repeat' (first | (k_unfold; (try dsimp only)) | k_extra "r seesr_12" | (k_end; kc_close) | walk1 | (dsimp only; walk1) | (leave1; walk_say "STEP leave1"; (try dsimp only)))
  have zhhi9 := trivial; have zhlo9 := trivial; have zn9' := trivial; have ztk9' := trivial; have zit9 := trivial; have zi9 := trivial
  rename_i i1 it1 tk1 nb1 hlo hhi hA ts kx hB F1 N1
  clear zhhi9 zhlo9 zn9' ztk9' zit9 zi9
  obtain ⟨hlen, hsok⟩ := abc_len hlo hhi
  generalize Txt.slice (Str.ofString "abcdefgh") none (some (1 + i1)) = text at hlen hsok F1 ⊢
  iterate 35 (first | (k_unfold; (try dsimp only)) | k_extra "r macros_7" | k_extra "r matchd_3" | k_extra "r seesr_12" | k_extra "r matchd_1" | (k_end; wrow_close) | walk1 | (dsimp only; walk1))
  have zhk9 := trivial; have zN9 := trivial; have zF9 := trivial; have zhR9 := trivial; have zv9 := trivial; have zu9 := trivial; have zt9 := trivial; have ztk9 := trivial; have zh9 := trivial; have zhhi9 := trivial; have zhlo9 := trivial; have zn9' := trivial; have ztk9' := trivial; have zit9 := trivial; have zi9 := trivial; have zl9 := trivial; have zD9 := trivial
  rename_i D hhD hrD hRD lg hhl hDl hrl hRl hhe dn hdn0 od0 lo hs9 fs9 hi9 fi9 hlm hDm hrm hRm hh9 hh9b tk9 i9 it9 tk9b n9b hlo9 hhi9 hh10 tk10 t10 u10 v10 hR9 F9 N9 hk9
  clear zhk9 zN9 zF9 zhR9 zv9 zu9 zt9 ztk9 zh9 zhhi9 zhlo9 zn9' ztk9' zit9 zi9 zl9 zD9
  have hn : ((i9.toNat : Nat) : Int) = i9 := Int.toNat_of_nonneg hlo9
  refine iter_rangeS (n := i9.toNat) [Str.ofString "begin", Str.ofString "name"] (MatchJ w rk sl dn lg D text rest) rfl hR9 ?_ ?_ F9 N9 ?_ ?_ ?_
  · exact small_one (by omega) (by omega) (by omega) (by omega)
  · rw [rangeSize_nat]
    omega
  · exact MatchJ.start (by omega) (by omega) hs9 hDl hDm
  · rintro i t u nx h tk I oI hi' hJ ho F2 N2
    replace F2 : Fr _ _ h _ := F2
    obtain ⟨k', tk', nn', od, gv, gs, gn, rows, new, rfl, J1, J2, J3, J4, J5, J6, J7, J8, J9⟩ := hJ
    have i1 : @Ne Nat rk I := ho _ (.head _)
    have i2 : @Ne Nat dn I := ho _ (.tail _ (.head _))
    have i3 : @Ne Nat lg I := ho _ (.tail _ (.tail _ (.head _)))
    have i4 : ∀ p ∈ rowsL rows, p.1 ≠ I := fun p hp => ho p (.tail _ (.tail _ (.tail _ (List.mem_append_left _ hp))))
    have i5 : ∀ p ∈ new, p.1 ≠ I := fun p hp => ho p (.tail _ (.tail _ (.tail _ (List.mem_append_right _ (List.mem_append_left _ hp)))))
    have i6 : ∀ p ∈ rest, p.1 ≠ I := fun p hp => ho p (.tail _ (.tail _ (.tail _ (List.mem_append_right _ (List.mem_append_right _ hp)))))
    have hgvl : gv.length ≤ 5 := by rw [J3.1]; omega
    have fr1 : ∀ p ∈ rowsL rows, p.1 ≠ rk := rowsL_ne J7 (Nat.lt_of_lt_of_le hrm (Nat.le_refl _))
    have fr2 : ∀ p ∈ rowsL rows, p.1 ≠ lg := rowsL_ne J7 hlm
    have fr3 : ∀ p ∈ rowsL rows, p.1 ≠ dn := fun p hp => Nat.ne_of_gt (rowsL_gt J7 p hp)
    have fn1 : ∀ p ∈ new, p.1 ≠ rk := fun p hp => Nat.ne_of_gt (Nat.lt_of_lt_of_le hrD (J9 p hp).1)
    have fn2 : ∀ p ∈ new, p.1 ≠ lg := fun p hp => (J9 p hp).2.1
    have fn3 : ∀ p ∈ new, p.1 ≠ dn := fun p hp => (J9 p hp).2.2
    k_unmd
    k_fold
    repeat' (first | (k_unfold; (try dsimp only)) | k_extra "r matchd_2" | k_extra "r seesr_12" | k_extra "r matchd_1" | (k_end; kc_close) | walk1 | (dsimp only; walk1) | (leave1; walk_say "STEP leave1"; (try dsimp only)))
    · have zhnm9 := trivial; have ztm9 := trivial; have znm9 := trivial; have zhhi9 := trivial; have zhlo9 := trivial; have zn9' := trivial; have ztk9' := trivial; have zit9 := trivial; have zi9 := trivial; have ztk9 := trivial; have zh9 := trivial; have zl9 := trivial; have zD9 := trivial
      rename_i Dm hhm m1 m2 m3 m4 mR mN mX hx2 tkx ix itx tky ny hlo hhi nm tm hnm hz tkz hne T9 hz9 F5 N5 u1 u2 u3 u4 u5 uR uN uX
      clear zhnm9 ztm9 znm9 zhhi9 zhlo9 zn9' ztk9' zit9 zi9 ztk9 zh9 zl9 zD9
      have hnm' := nm_menu hnm hne
      have tf := TurnF.none (rows := rows) J2 J3 J4 J8 J9
      have hgl : (gv ++ [Value.none]).length ≤ 6 := by rw [tf.gvs.1, tf.gl]; omega
      refine setdef_rows F5 (News.pull (by repeat (first | exact Pull.head | apply Pull.tail)) N5) (by k_all) J6 lo J5.count ?_ ?_
      · intro r1 r r2 er hr
        subst er
        obtain ⟨a1, a2⟩ := rows_apart J5
        have hra := J7 r (List.mem_append_right _ (.head _))
        have a3 := tf.na r (List.mem_append_right _ (.head _))
        have a4 : ∀ p ∈ rest, p.1 ≠ r.ad := fun p hp => Nat.ne_of_lt (Nat.lt_trans (allLt_mem hRm p hp) hra)
        have a5 : @Ne Nat rk r.ad := Nat.ne_of_lt (Nat.lt_trans hrm hra)
        have a6 : @Ne Nat dn r.ad := Nat.ne_of_lt hra
        have a7 : @Ne Nat lg r.ad := Nat.ne_of_lt (Nat.lt_trans hlm hra)
        have a8 : @Ne Nat r.ad I := i4 (r.ad, listOf r.vs.toArray r.n) (List.mem_map.mpr ⟨r, List.mem_append_right _ (.head _), rfl⟩)
        have a9 := Ne.symm a8
        have hrl : r.vs.length ≤ 5 := by rw [(J5.rInts r (List.mem_append_right _ (.head _))).length]; have := J5.rLen r (List.mem_append_right _ (.head _)); omega
        have N6 : News _ _ hz9 ((r.ad, listOf r.vs.toArray r.n) :: (rk, listOf #[.ref sl, .int (k' + 1 + 1) tky] ny) :: (I, oI) :: (dn, od) :: (lg, listOf (gv ++ [Value.none]).toArray (gn + 1)) :: (rowsL r1 ++ (rowsL r2 ++ (new ++ rest)))) := News.sub1 N5 (by
          k_extra "t subr")
        clear N5
        k_steps
        with_reducible rename News _ _ _ _ => N7
        with_reducible rename Fr _ _ _ _ => F7
        simp only [List.push_toArray] at N7
        refine exI4 (a4 := (rk, listOf #[.ref sl, .int (k' + 1 + 1) tky] ny) :: (dn, od) :: (lg, listOf (gv ++ [Value.none]).toArray (gn + 1)) :: (rowsL (r1 ++ ⟨r.nm, r.ad, r.vs ++ [.int (1 + (i : Int)) t], r.is ++ [1 + (i : Int)], r.n + 1⟩ :: r2) ++ (new ++ rest))) ⟨rfl, F7, News.sub1 N7 ?_, ?_, MatchJ.there tf (by omega) J5 J6 J7, ?_⟩
        · k_extra "t subr"
        · refine List.forall_mem_cons.mpr ⟨i1, List.forall_mem_cons.mpr ⟨i2, List.forall_mem_cons.mpr ⟨i3, forall_app (fun p hp => ?_) (forall_app i5 i6)⟩⟩⟩
          rw [rowsL_mid] at hp
          rcases List.mem_append.mp hp with hp | hp
          · exact i4 p (by rw [rowsL_mid]; exact List.mem_append_left _ hp)
          · rcases List.mem_cons.mp hp with rfl | hp
            · exact a8
            · exact i4 p (by rw [rowsL_mid]; exact List.mem_append_right _ (.tail _ hp))
        · intro z h1 h2
          have z1 : z ≠ Str.ofString "begin" := fun e => absurd (e ▸ h2) (by decide)
          have z2 : z ≠ Str.ofString "name" := fun e => absurd (e ▸ h2) (by decide)
          simp only [if_neg h1, if_neg z1, if_neg z2, h2, Bool.false_eq_true, if_false]
      · intro hk9 h6 o6 F6 N6 hd6
        have N7 : News _ _ h6 ((T9, listOf #[] 0) :: (rk, listOf #[.ref sl, .int (k' + 1 + 1) tky] ny) :: (I, oI) :: (dn, o6) :: (lg, listOf (gv ++ [Value.none]).toArray (gn + 1)) :: (rowsL rows ++ (new ++ rest))) := News.sub1 N6 (by
          k_extra "t subr")
        clear N5 N6
        k_steps
        with_reducible rename News _ _ _ _ => N8
        with_reducible rename Fr _ _ _ _ => F7
        simp only [List.push_toArray, List.nil_append] at N8
        refine exI4 (a4 := (rk, listOf #[.ref sl, .int (k' + 1 + 1) tky] ny) :: (dn, o6) :: (lg, listOf (gv ++ [Value.none]).toArray (gn + 1)) :: (rowsL (rows ++ [⟨nm, T9, [.int (1 + (i : Int)) t], [1 + (i : Int)], 0 + 1⟩]) ++ (new ++ rest))) ⟨rfl, F7, News.sub1 N8 ?_, ?_, MatchJ.more tf (by omega) J5 hd6 J7 hnm' hk9 u4 uR uN, ?_⟩
        · k_extra "t subr"
        · refine List.forall_mem_cons.mpr ⟨i1, List.forall_mem_cons.mpr ⟨i2, List.forall_mem_cons.mpr ⟨i3, forall_app (fun p hp => ?_) (forall_app i5 i6)⟩⟩⟩
          rw [rowsL_app] at hp
          rcases List.mem_append.mp hp with hp | hp
          · exact i4 p hp
          · rw [rowsL_one] at hp
            rw [List.mem_singleton.mp hp]
            exact Nat.ne_of_gt u3
        · intro z h1 h2
          have z1 : z ≠ Str.ofString "begin" := fun e => absurd (e ▸ h2) (by decide)
          have z2 : z ≠ Str.ofString "name" := fun e => absurd (e ▸ h2) (by decide)
          simp only [if_neg h1, if_neg z1, if_neg z2, h2, Bool.false_eq_true, if_false]
    · have zhnm9 := trivial; have ztm9 := trivial; have znm9 := trivial; have zhhi9 := trivial; have zhlo9 := trivial; have zn9' := trivial; have ztk9' := trivial; have zit9 := trivial; have zi9 := trivial; have ztk9 := trivial; have zh9 := trivial; have zl9 := trivial; have zD9 := trivial
      rename_i Dm hhm m1 m2 m3 m4 mR mN mX hx2 tkx ix itx tky ny hlo hhi nm tm hnm hz F5 N5 tkz hne
      clear zhnm9 ztm9 znm9 zhhi9 zhlo9 zn9' ztk9' zit9 zi9 ztk9 zh9 zl9 zD9
      refine exI4 (a4 := (rk, listOf #[.ref sl, .int (k' + 1 + 1) tky] ny) :: (dn, od) :: (lg, listOf (gv ++ [Value.none]).toArray (gn + 1)) :: (rowsL rows ++ (new ++ rest))) ⟨rfl, F5, News.sub1 N5 ?_, ?_, MatchJ.same (TurnF.none J2 J3 J4 J8 J9) (by omega) J5 J6 J7, ?_⟩
      · k_extra "t subr"
      · exact List.forall_mem_cons.mpr ⟨i1, List.forall_mem_cons.mpr ⟨i2, List.forall_mem_cons.mpr ⟨i3, forall_app i4 (forall_app i5 i6)⟩⟩⟩
      · intro z h1 h2
        have z1 : z ≠ Str.ofString "begin" := fun e => absurd (e ▸ h2) (by decide)
        have z2 : z ≠ Str.ofString "name" := fun e => absurd (e ▸ h2) (by decide)
        simp only [if_neg h1, if_neg z1, if_neg z2, h2, Bool.false_eq_true, if_false]
    · have zhnm9 := trivial; have ztm9 := trivial; have znm9 := trivial; have zhhi9 := trivial; have zhlo9 := trivial; have zn9' := trivial; have ztk9' := trivial; have zit9 := trivial; have zi9 := trivial; have ztk9 := trivial; have zh9 := trivial; have zl9 := trivial; have zD9 := trivial
      rename_i ib itb tkb nbb hlb hhb qb eb hb9 tb9 hb8 tb8 il itl tkl nbl hll hhl qb2 eb2 Dp hhp p1 p2 p3 p4 pR pN pX hx1 tkp Dm hhm mp m1 m2 m3 m4 mR mN mX hx2 tkx ix itx tky ny hlo hhi nm tm hnm hz tkz hne T9 hz9 F5 N5 u1 u2 up u3 u4 u5 uR uN uX
      clear zhnm9 ztm9 znm9 zhhi9 zhlo9 zn9' ztk9' zit9 zi9 ztk9 zh9 zl9 zD9
      have hnm' := nm_menu hnm hne
      have tf := (TurnF.some (rows := rows) (tb := itb) (te := tb8) (b := ib) (e := ib + il) J2 J3 J4 J8 J9 (by omega) (by omega) (by omega) hDl p3 p4 pR)
      have hgl : (gv ++ [Value.ref Dp]).length ≤ 6 := by rw [tf.gvs.1, tf.gl]; omega
      refine setdef_rows F5 (News.pull (by repeat (first | exact Pull.head | apply Pull.tail)) N5) (by k_all) J6 lo J5.count ?_ ?_
      · intro r1 r r2 er hr
        subst er
        obtain ⟨a1, a2⟩ := rows_apart J5
        have hra := J7 r (List.mem_append_right _ (.head _))
        have a3 := tf.na r (List.mem_append_right _ (.head _))
        have a4 : ∀ p ∈ rest, p.1 ≠ r.ad := fun p hp => Nat.ne_of_lt (Nat.lt_trans (allLt_mem hRm p hp) hra)
        have a5 : @Ne Nat rk r.ad := Nat.ne_of_lt (Nat.lt_trans hrm hra)
        have a6 : @Ne Nat dn r.ad := Nat.ne_of_lt hra
        have a7 : @Ne Nat lg r.ad := Nat.ne_of_lt (Nat.lt_trans hlm hra)
        have a8 : @Ne Nat r.ad I := i4 (r.ad, listOf r.vs.toArray r.n) (List.mem_map.mpr ⟨r, List.mem_append_right _ (.head _), rfl⟩)
        have a9 := Ne.symm a8
        have hrl : r.vs.length ≤ 5 := by rw [(J5.rInts r (List.mem_append_right _ (.head _))).length]; have := J5.rLen r (List.mem_append_right _ (.head _)); omega
        have N6 : News _ _ hz9 ((r.ad, listOf r.vs.toArray r.n) :: (rk, listOf #[.ref sl, .int (k' + 1 + 1 + 1 + 1) tky] ny) :: (I, oI) :: (dn, od) :: (lg, listOf (gv ++ [Value.ref Dp]).toArray (gn + 1)) :: (rowsL r1 ++ (rowsL r2 ++ (((Dp, tupO [.int ib itb, .int (ib + il) tb8]) :: new) ++ rest)))) := News.sub1 N5 (by
          k_extra "t subr")
        clear N5
        k_steps
        with_reducible rename News _ _ _ _ => N7
        with_reducible rename Fr _ _ _ _ => F7
        simp only [List.push_toArray] at N7
        refine exI4 (a4 := (rk, listOf #[.ref sl, .int (k' + 1 + 1 + 1 + 1) tky] ny) :: (dn, od) :: (lg, listOf (gv ++ [Value.ref Dp]).toArray (gn + 1)) :: (rowsL (r1 ++ ⟨r.nm, r.ad, r.vs ++ [.int (1 + (i : Int)) t], r.is ++ [1 + (i : Int)], r.n + 1⟩ :: r2) ++ (((Dp, tupO [.int ib itb, .int (ib + il) tb8]) :: new) ++ rest))) ⟨rfl, F7, News.sub1 N7 ?_, ?_, MatchJ.there tf (by omega) J5 J6 J7, ?_⟩
        · k_extra "t subr"
        · refine List.forall_mem_cons.mpr ⟨i1, List.forall_mem_cons.mpr ⟨i2, List.forall_mem_cons.mpr ⟨i3, forall_app (fun p hp => ?_) (forall_app (List.forall_mem_cons.mpr ⟨Nat.ne_of_gt p2, i5⟩) i6)⟩⟩⟩
          rw [rowsL_mid] at hp
          rcases List.mem_append.mp hp with hp | hp
          · exact i4 p (by rw [rowsL_mid]; exact List.mem_append_left _ hp)
          · rcases List.mem_cons.mp hp with rfl | hp
            · exact a8
            · exact i4 p (by rw [rowsL_mid]; exact List.mem_append_right _ (.tail _ hp))
        · intro z h1 h2
          have z1 : z ≠ Str.ofString "begin" := fun e => absurd (e ▸ h2) (by decide)
          have z2 : z ≠ Str.ofString "name" := fun e => absurd (e ▸ h2) (by decide)
          simp only [if_neg h1, if_neg z1, if_neg z2, h2, Bool.false_eq_true, if_false]
      · intro hk9 h6 o6 F6 N6 hd6
        have N7 : News _ _ h6 ((T9, listOf #[] 0) :: (rk, listOf #[.ref sl, .int (k' + 1 + 1 + 1 + 1) tky] ny) :: (I, oI) :: (dn, o6) :: (lg, listOf (gv ++ [Value.ref Dp]).toArray (gn + 1)) :: (rowsL rows ++ (((Dp, tupO [.int ib itb, .int (ib + il) tb8]) :: new) ++ rest))) := News.sub1 N6 (by
          k_extra "t subr")
        clear N5 N6
        k_steps
        with_reducible rename News _ _ _ _ => N8
        with_reducible rename Fr _ _ _ _ => F7
        simp only [List.push_toArray, List.nil_append] at N8
        refine exI4 (a4 := (rk, listOf #[.ref sl, .int (k' + 1 + 1 + 1 + 1) tky] ny) :: (dn, o6) :: (lg, listOf (gv ++ [Value.ref Dp]).toArray (gn + 1)) :: (rowsL (rows ++ [⟨nm, T9, [.int (1 + (i : Int)) t], [1 + (i : Int)], 0 + 1⟩]) ++ (((Dp, tupO [.int ib itb, .int (ib + il) tb8]) :: new) ++ rest))) ⟨rfl, F7, News.sub1 N8 ?_, ?_, MatchJ.more tf (by omega) J5 hd6 J7 hnm' hk9 u4 uR ⟨up, uN⟩, ?_⟩
        · k_extra "t subr"
        · refine List.forall_mem_cons.mpr ⟨i1, List.forall_mem_cons.mpr ⟨i2, List.forall_mem_cons.mpr ⟨i3, forall_app (fun p hp => ?_) (forall_app (List.forall_mem_cons.mpr ⟨Nat.ne_of_gt p2, i5⟩) i6)⟩⟩⟩
          rw [rowsL_app] at hp
          rcases List.mem_append.mp hp with hp | hp
          · exact i4 p hp
          · rw [rowsL_one] at hp
            rw [List.mem_singleton.mp hp]
            exact Nat.ne_of_gt u3
        · intro z h1 h2
          have z1 : z ≠ Str.ofString "begin" := fun e => absurd (e ▸ h2) (by decide)
          have z2 : z ≠ Str.ofString "name" := fun e => absurd (e ▸ h2) (by decide)
          simp only [if_neg h1, if_neg z1, if_neg z2, h2, Bool.false_eq_true, if_false]
    · have zhnm9 := trivial; have ztm9 := trivial; have znm9 := trivial; have zhhi9 := trivial; have zhlo9 := trivial; have zn9' := trivial; have ztk9' := trivial; have zit9 := trivial; have zi9 := trivial; have ztk9 := trivial; have zh9 := trivial; have zl9 := trivial; have zD9 := trivial
      rename_i ib itb tkb nbb hlb hhb qb eb hb9 tb9 hb8 tb8 il itl tkl nbl hll hhl qb2 eb2 Dp hhp p1 p2 p3 p4 pR pN pX hx1 tkp Dm hhm mp m1 m2 m3 m4 mR mN mX hx2 tkx ix itx tky ny hlo hhi nm tm hnm hz F5 N5 tkz hne
      clear zhnm9 ztm9 znm9 zhhi9 zhlo9 zn9' ztk9' zit9 zi9 ztk9 zh9 zl9 zD9
      refine exI4 (a4 := (rk, listOf #[.ref sl, .int (k' + 1 + 1 + 1 + 1) tky] ny) :: (dn, od) :: (lg, listOf (gv ++ [Value.ref Dp]).toArray (gn + 1)) :: (rowsL rows ++ (((Dp, tupO [.int ib itb, .int (ib + il) tb8]) :: new) ++ rest))) ⟨rfl, F5, News.sub1 N5 ?_, ?_, MatchJ.same (TurnF.some (rows := rows) (tb := itb) (te := tb8) (b := ib) (e := ib + il) J2 J3 J4 J8 J9 (by omega) (by omega) (by omega) hDl p3 p4 pR) (by omega) J5 J6 J7, ?_⟩
      · k_extra "t subr"
      · exact List.forall_mem_cons.mpr ⟨i1, List.forall_mem_cons.mpr ⟨i2, List.forall_mem_cons.mpr ⟨i3, forall_app i4 (forall_app (List.forall_mem_cons.mpr ⟨Nat.ne_of_gt p2, i5⟩) i6)⟩⟩⟩
      · intro z h1 h2
        have z1 : z ≠ Str.ofString "begin" := fun e => absurd (e ▸ h2) (by decide)
        have z2 : z ≠ Str.ofString "name" := fun e => absurd (e ▸ h2) (by decide)
        simp only [if_neg h1, if_neg z1, if_neg z2, h2, Bool.false_eq_true, if_false]
  · rintro u nx h tk hJ F2 N2
    replace F2 : Fr _ _ h _ := F2
    obtain ⟨k', tk', nn', od, gv, gs, gn, rows, new, rfl, J1, J2, J3, J4, J5, J6, J7, J8, J9⟩ := hJ
    k_unmd
    repeat' (first | (k_unfold; (try dsimp only)) | k_extra "r matchd_1" | (k_end; kc_close) | walk1 | (dsimp only; walk1) | (leave1; walk_say "STEP leave1"; (try dsimp only)))
    with_reducible rename News _ _ _ _ => N8
    with_reducible rename Fr _ _ _ _ => F7
    have zl9 := trivial; have zN9 := trivial; have zF9 := trivial; have zh9 := trivial; have zD9 := trivial
    rename_i tm hmm F9x N9x q1 q2 q3 qR qN qX e8 e9
    clear zl9 zN9 zF9 zh9 zD9
    have hs : ∀ p ∈ rowsL rows ++ new, p ∈ (tm, tupO [.str text ts, .ref lg, .ref dn]) :: (dn, od) :: (lg, listOf gv.toArray gn) :: (rowsL rows ++ new) := fun p hp => .tail _ (.tail _ (.tail _ hp))
    have J3' := J3.mono fun p hp => hs p (List.mem_append_right _ hp)
    refine hret _ _ _ _ F7 (News.sub1 N8 ?_) ⟨⟨text, gs, rowsN rows⟩, k', tk', nn', (tm, tupO [.str text ts, .ref lg, .ref dn]) :: (dn, od) :: (lg, listOf gv.toArray gn) :: (rowsL rows ++ new), D, rfl, J1,
      ⟨md_ok (by omega) (by omega) J2 J4 J5 hsok, tm, lg, dn, ts, rfl, .head _, ⟨gv, gn, .tail _ (.tail _ (.head _)), J3'.1, J3'.2⟩, rows_rep (.tail _ (.head _)) lo J6 J5 fun p hp => hs p (List.mem_append_left _ hp)⟩, rfl, ⟨hrD, allLt_mem hRD⟩, ?_⟩
    · k_extra "t subr"
    · refine List.forall_mem_cons.mpr ⟨Nat.le_of_lt (Nat.lt_trans hDl q3), List.forall_mem_cons.mpr ⟨Nat.le_of_lt hDm, List.forall_mem_cons.mpr ⟨Nat.le_of_lt hDl, forall_app (fun p hp => ?_) fun p hp => (J9 p hp).1⟩⟩⟩
      exact Nat.le_of_lt (Nat.lt_trans hDm (rowsL_gt J7 p hp))
end
theorem rs_lawm : True := by
  w_top off
  trivial
/-! the contracts, as the walk takes them: lawm.mac -/
theorem rs_lawr : True := by
  w_top off
  trivial
/-! What the law's own body needs -/
section
variable {prog : Program} {w : World} {A : Around} {E : Value → Shared → Prop} {s : Shared} {env : Env} {h₀ : Heap} {x : Str} {body : List Stmt} {Q : Flow → Shared → Prop}
theorem iter_tupS {l : Addr} {vs : List Value} {m₀ : Str → Option Value} {news : Led} (stored : List Str) (J : Nat → Led → Prop)
    (hh : A.handled = none) (hm : (l, tupO vs) ∈ news) (F : Fr h₀ env.locals s.heap m₀) (N : News h₀ env.locals s.heap news)
    (hJm : ∀ i nx, J i nx → (l, tupO vs) ∈ nx) (hj : J 0 news)
    (turn : ∀ i v (u : Str → Option Value) nx h tk I oI, vs[i]? = some v → J i nx → (∀ p ∈ nx, p.1 ≠ I) → Fr h₀ env.locals h (fun y => if y = x then some v else if stored.contains y then u y else m₀ y) → News h₀ env.locals h ((I, oI) :: nx) →
      wpAny (model prog w) A (execs body env) (TurnQ h₀ env.locals I oI (fun m' nx' => J (i + 1) nx' ∧ KeepsM x stored m₀ m') { s with heap := h, toks := tk } Q) E { s with heap := h, toks := tk })
    (done : ∀ (u : Str → Option Value) nx h tk, J vs.length nx → Fr h₀ env.locals h (fun y => if y = x then u y else if stored.contains y then u y else m₀ y) → News h₀ env.locals h nx → Q .next { s with heap := h, toks := tk }) :
    wpAny (model prog w) A (pyIter (.ref l)) (fun it s₂ => LoopAtV prog w A h₀ env x body Q E it s₂) E s := by
  have hax := N _ hm
  have hl : s.heap.IsTuple l vs.toArray := ⟨_, hax.1, rfl, _, rfl⟩
  have hlt : l < s.heap.objs.size := Heap.lt_size hax.1
  refine wpAny_pyIter_tuple hl ?_
  have W := Walks.tuple (prog := prog) (w := w) hh s.heap.objs.size l (Nat.ne_of_lt hlt) vs.toArray
  rw [List.size_toArray] at W
  refine loop_J (s := { s with heap := _ }) (fun i m nx => J i nx ∧ KeepsM x stored m₀ m) W (fun i h st => by obtain ⟨o, ho, _⟩ := st.1; exact ⟨o, ho⟩) (next_is_new F) ?_ ?_ ⟨⟨_, Heap.get?_push_size _ rfl, rfl, rfl⟩, hl.at fun o e => Heap.get?_push_of_some _ e⟩ (F.push _) (fun p hp => ⟨Heap.get?_push_of_some _ (N p hp).1, (N p hp).2⟩) (fun p hp => Nat.ne_of_lt (Heap.lt_size (N p hp).1)) ⟨hj, fun _ _ _ => rfl⟩ ?_ ?_
  · intro hmem
    rcases List.mem_cons.mp hmem with e | hmem
    · exact absurd F.ns.lt (e ▸ Nat.lt_irrefl _)
    · exact hax.2.1 (List.mem_singleton.mp hmem).symm
  · intro b hb hne
    rcases List.mem_cons.mp hb with e | hb
    · exact absurd e hne
    · rw [List.mem_singleton.mp hb]
      exact ⟨_, fun i m nx h => hJm i nx h.1⟩
  · rintro i v m₁ nx h tk oI hin hP ⟨hJ, hm₁⟩ ho F₁ N₁
    exact turn i v m₁ nx h tk _ oI (by simpa using hP) hJ ho (fr_stored hm₁ F₁) N₁
  · rintro m₁ nx h tk ⟨hJ, hm₁⟩ F₁ N₁
    exact done m₁ nx h tk hJ (fr_behind hm₁ F₁) N₁
end
section
variable {prog : Program} {w : World} {A : Around} {E : Value → Shared → Prop} {s : Shared} {h₀ : Heap} {L : Addr} {news : Led}
theorem item_last {value slice : PySem.Expr} {l : Addr} {a : List Value} {x : Value} {n : Nat} {u : Tok} {Q : Value → Shared → Prop} (N : News h₀ L s.heap news) (hm : (l, listOf (a ++ [x]).toArray n) ∈ news) (hl : a.length ≤ 1000)
    (h : Q x s) (hs : subscripted slice false (.ref l) (.int (-1) u) = operate [.ref l, .int (-1) u] (getItem (.ref l) (.int (-1) u))) :
    wpAny (model prog w) A (subscriptTail value slice (.ref l) (.int (-1) u)) Q E s := by
  have hz : (a ++ [x]).toArray.size = a.length + 1 := by simp
  refine tail_any (mem_list N hm).typeIs slot_list_getitem.lookup (wpAny_getItem_list_neg (mem_list N hm) (by decide) (by rw [hz]; omega) (by decide) ?_ h) hs
  rw [hz]
  have e : (-1 + ((a.length + 1 : Nat) : Int)).toNat = a.length := by omega
  rw [e]
  simp
theorem ne_longer1 {a b : Addr} {xs : List Value} {x : Value} {n k : Nat} {Q : Value → Shared → Prop} (N : News h₀ L s.heap news) (ha : (a, listOf (xs ++ [x]).toArray n) ∈ news) (hb : (b, listOf #[] k) ∈ news) (hu : A.units < cLine)
    (h : Q (.bool true) s) : wpAny (model prog w) A (compareOp .NotEq (.ref a) (.ref b)) Q E s :=
  ne_longer (ys := []) N ha hb (by simp) hu h
end
theorem ints_unsnoc : ∀ {xs : List Int} {x : Int} {vs : List Value}, IntsAre vs (xs ++ [x]) → ∃ vs' t, vs = vs' ++ [.int x t] ∧ IntsAre vs' xs
  | [], x, vs, h => by
    cases h with
    | cons _ t h => cases h; exact ⟨[], t, rfl, .nil⟩
  | y :: ys, x, vs, h => by
    cases h with
    | cons _ t h =>
      obtain ⟨vs', t', e, h'⟩ := ints_unsnoc h
      subst e
      exact ⟨_ :: vs', t', rfl, .cons _ _ h'⟩
/-- a match that the law has set -/
structure Ent where
  M : MD
  mv : Value
  cm : Value
  pv : Value
  t : Addr
noncomputable def cmOf : List Ent → Value
  | [] => .none
  | e :: _ => e.cm
noncomputable def pvOf : List Ent → Value
  | [] => .none
  | e :: _ => e.pv
noncomputable def mvOf : List Ent → Value
  | [] => .none
  | e :: _ => e.mv
noncomputable def curOf : List Ent → Option MD
  | [] => none
  | e :: _ => some e.M
/-- the matches that stand, the last first -/
inductive Hist (w : World) (news : Led) : List Ent → Prop
  | nil : Hist w news []
  | cons {e : Ent} {l : List Ent} {tt : Tok} : MatchRep w news e.mv (some e.M) → Held w news e.cm e.pv (some e.M) → handedIn e.mv = true → handedIn e.cm = true → (e.t, tupO [.str (Str.ofString "match") tt, cmOf l, pvOf l]) ∈ news → Hist w news l → Hist w news (e :: l)
theorem Hist.mono {w : World} {news news' : Led} (hs : ∀ p ∈ news, p ∈ news') : ∀ {l : List Ent}, Hist w news l → Hist w news' l
  | _, .nil => .nil
  | _, .cons a b c d e r => .cons (a.mono hs) (b.mono hs) c d (hs _ e) (Hist.mono hs r)
theorem Hist.cur {w : World} {news : Led} {l : List Ent} (h : Hist w news l) : MatchRep w news (mvOf l) (curOf l) ∧ Held w news (cmOf l) (pvOf l) (curOf l) ∧ handedIn (mvOf l) = true ∧ handedIn (cmOf l) = true := by
  cases h with
  | nil => exact ⟨rfl, ⟨rfl, rfl⟩, rfl, rfl⟩
  | cons a b c d e r => exact ⟨a, b, c, d⟩
noncomputable def savesL (l : List Ent) : List Value := (l.map fun e => Value.ref e.t).reverse
noncomputable def toldL (l : List Ent) : List Value := .none :: (l.map fun e => e.mv).reverse
noncomputable def marksN : List Ent → List Int
  | [] => []
  | _ :: l => marksN l ++ [(l.length : Int)]
theorem savesL_cons (e : Ent) (l : List Ent) : savesL (e :: l) = savesL l ++ [.ref e.t] := by simp [savesL]
theorem toldL_cons (e : Ent) (l : List Ent) : toldL (e :: l) = toldL l ++ [e.mv] := by simp [toldL]
theorem savesL_len (l : List Ent) : (savesL l).length = l.length := by simp [savesL]
theorem toldL_len (l : List Ent) : (toldL l).length = l.length + 1 := by simp [toldL]
theorem toldL_last (l : List Ent) : ∃ a, toldL l = a ++ [mvOf l] ∧ a.length = l.length := by
  cases l with
  | nil => exact ⟨[], rfl, rfl⟩
  | cons e l => exact ⟨toldL l, toldL_cons e l, by rw [toldL_len]; rfl⟩
theorem marksN_len : ∀ l : List Ent, (marksN l).length = l.length
  | [] => rfl
  | _ :: l => by simp [marksN, marksN_len l]
/-- the four names -/
noncomputable def four : List Str := [Str.ofString "x", Str.ofString "y", Str.ofString "z", Str.ofString "w"]
/-- what stands between two turns of the loop that makes the elder elements -/
inductive ElderJ (w : World) (rn hpd ed Tn : Addr) (l1 l2 l3 : Int) (u1 u2 u3 : Tok) (lim zl : Value) (rest : Led) (i : Nat) (nx : Led) : Prop
  | mk (k : Int) (tk : Tok) (oe : Obj) (xs : List (Str × Addr)) (new : Led) (f0 : nx = (hpd, hpO l1 l2 l3 u1 u2 u3 lim zl k tk) :: (ed, oe) :: (new ++ rest)) (f1 : xs.map (·.1) = four.take i) (f2 : oe.IsDictOf (PySem.strKind PG w) (xs.map fun p => (p.1, Value.ref p.2))) (f3 : (∀ p ∈ xs, ScalarRep new rn p.1 p.2)) (f4 : ∀ q ∈ new, @LT.lt Nat _ Tn q.1) : ElderJ w rn hpd ed Tn l1 l2 l3 u1 u2 u3 lim zl rest i nx
theorem ElderJ.elder {w : World} {rn hpd ed Tn : Addr} {l1 l2 l3 : Int} {u1 u2 u3 : Tok} {lim zl : Value} {rest nx : Led} (h : ElderJ w rn hpd ed Tn l1 l2 l3 u1 u2 u3 lim zl rest 4 nx) (lo : (ed == sysModules) = false) :
    ∃ (k : Int) (tk : Tok) (oe : Obj) (new : Led), nx = (hpd, hpO l1 l2 l3 u1 u2 u3 lim zl k tk) :: (ed, oe) :: (new ++ rest) ∧ ElderRep w ((ed, oe) :: new) rn ed ∧ ∀ q ∈ new, @LT.lt Nat _ Tn q.1 := by
  obtain ⟨k, tk, oe, xs, new, rfl, hx, hd, hs, ha⟩ := h
  match xs, hx with
  | [(a, e1), (b, e2), (c, e3), (d, e4)], hx =>
    simp only [List.map_cons, List.map_nil, four, List.take, List.cons.injEq, and_true] at hx
    obtain ⟨rfl, rfl, rfl, rfl⟩ := hx
    have up : ∀ p ∈ new, p ∈ (ed, oe) :: new := fun p hp => .tail _ hp
    exact ⟨k, tk, oe, new, rfl, ⟨oe, e1, e2, e3, e4, .head _, lo, hd, (hs _ (.head _)).mono up, (hs _ (.tail _ (.head _))).mono up, (hs _ (.tail _ (.tail _ (.head _)))).mono up, (hs _ (.tail _ (.tail _ (.tail _ (.head _))))).mono up⟩, ha⟩
/-- what stays in the ledger while the law's loops turn -/
structure LawF (w : World) (rest : Led) (rn rnd hp hpd ct st std sv pd gd sg sgd rk sl tb gl gl2 : Addr) (o : Obj) (num : Int) : Prop where
  r1 : (rn, instObj 623 rnd) ∈ rest
  r2 : (st, instObj 729 std) ∈ rest
  r3 : ∃ h1 h2 h3 t1 t2 t3 tks, (std, stO h1 h2 h3 t1 t2 t3 hp gd 0 tks) ∈ rest
  r4 : (hp, instObj 180 hpd) ∈ rest
  r5 : ∃ vs ns n, (sl, listOf vs.toArray n) ∈ rest ∧ IntsAre vs ns ∧ ns.length ≤ 40
  r6 : (sg, instObj 499 sgd) ∈ rest
  r7 : CtRep w rest ct
  r8 : TabRep rest tb num (.ref sg)
  r9 : GlobRep rest gl tb
  d : o.IsDictOf (PySem.strKind PG w) [(Str.ofString "main::+", .ref gl), (Str.ofString "main::h", .ref gl2)]
  lo1 : (gd == sysModules) = false
  lo2 : (pd == sysModules) = false
  f1 : ∀ p ∈ rest, p.1 ≠ sgd
  f2 : ∀ p ∈ rest, p.1 ≠ hpd
  f3 : ∀ p ∈ rest, p.1 ≠ rnd
  f4 : ∀ p ∈ rest, p.1 ≠ pd
  f5 : ∀ p ∈ rest, p.1 ≠ sv
  f6 : ∀ p ∈ rest, p.1 ≠ rk
theorem law_pack {C : Prop} {w : World} {h₀ h : Heap} {L : Addr} {rn rnd hp hpd ct st std sv pd gd sg sgd rk sl tb gl gl2 nd1 nd2 : Addr} {o : Obj} {num : Int} {l1 l2 l3 k h1 h2 h3 i1 i2 i3 : Int} {u1 u2 u3 tk t1 t2 t3 j1 j2 j3 tks ta : Tok} {lim zl lv : Value} {n1 n2 : Obj} {es : List DictEntry} {nx pn c n n' : Nat} {ws : List Value} {ns : List Int} {x1 x2 x3 : Led}
    (N : News h₀ L h ((hpd, hpO l1 l2 l3 u1 u2 u3 lim zl k tk) :: (gd, o) :: (nd2, n2) :: (sgd, sgO h1 h2 h3 t1 t2 t3 rn lv) :: (nd1, n1) :: (rnd, dictOf es nx) :: (pd, patX w none pn) :: (sv, listOf #[] c) :: (rn, instObj 623 rnd) :: (st, instObj 729 std) :: (std, stO i1 i2 i3 j1 j2 j3 hp gd 0 tks) :: (hp, instObj 180 hpd) ::
      (rk, listOf #[.ref sl, .int 0 ta] n) :: (sl, listOf ws.toArray n') :: (x1 ++ (x2 ++ x3))))
    (hR : RunEs es hp ct st sv pd .none) (hI : IntsAre ws ns) (hb : ns.length ≤ 40) (hct : CtRep w x3 ct) (hsg : (sg, instObj 499 sgd) ∈ x2) (hT : TabRep x2 tb num (.ref sg)) (hG : GlobRep x2 gl tb)
    (hd : o.IsDictOf (PySem.strKind PG w) [(Str.ofString "main::+", .ref gl), (Str.ofString "main::h", .ref gl2)]) (lo1 : (gd == sysModules) = false) (lo2 : (pd == sysModules) = false)
    (f1 : ∀ p ∈ (rn, instObj 623 rnd) :: (st, instObj 729 std) :: (std, stO i1 i2 i3 j1 j2 j3 hp gd 0 tks) :: (hp, instObj 180 hpd) :: (sl, listOf ws.toArray n') :: (x1 ++ (x2 ++ x3)), p.1 ≠ sgd)
    (f2 : ∀ p ∈ (rn, instObj 623 rnd) :: (st, instObj 729 std) :: (std, stO i1 i2 i3 j1 j2 j3 hp gd 0 tks) :: (hp, instObj 180 hpd) :: (sl, listOf ws.toArray n') :: (x1 ++ (x2 ++ x3)), p.1 ≠ hpd)
    (f3 : ∀ p ∈ (rn, instObj 623 rnd) :: (st, instObj 729 std) :: (std, stO i1 i2 i3 j1 j2 j3 hp gd 0 tks) :: (hp, instObj 180 hpd) :: (sl, listOf ws.toArray n') :: (x1 ++ (x2 ++ x3)), p.1 ≠ rnd)
    (f4 : ∀ p ∈ (rn, instObj 623 rnd) :: (st, instObj 729 std) :: (std, stO i1 i2 i3 j1 j2 j3 hp gd 0 tks) :: (hp, instObj 180 hpd) :: (sl, listOf ws.toArray n') :: (x1 ++ (x2 ++ x3)), p.1 ≠ pd)
    (f5 : ∀ p ∈ (rn, instObj 623 rnd) :: (st, instObj 729 std) :: (std, stO i1 i2 i3 j1 j2 j3 hp gd 0 tks) :: (hp, instObj 180 hpd) :: (sl, listOf ws.toArray n') :: (x1 ++ (x2 ++ x3)), p.1 ≠ sv)
    (f6 : ∀ p ∈ (rn, instObj 623 rnd) :: (st, instObj 729 std) :: (std, stO i1 i2 i3 j1 j2 j3 hp gd 0 tks) :: (hp, instObj 180 hpd) :: (sl, listOf ws.toArray n') :: (x1 ++ (x2 ++ x3)), p.1 ≠ rk)
    (h : ∀ rest, News h₀ L h ((sgd, sgO h1 h2 h3 t1 t2 t3 rn lv) :: (hpd, hpO l1 l2 l3 u1 u2 u3 lim zl k tk) :: (rnd, dictOf es nx) :: (pd, patX w none pn) :: (sv, listOf #[] c) :: (rk, listOf #[.ref sl, .int 0 ta] n) :: (gd, o) :: rest) →
      LawF w rest rn rnd hp hpd ct st std sv pd gd sg sgd rk sl tb gl gl2 o num → RunEs es hp ct st sv pd .none → C) : C := by
  refine h ((rn, instObj 623 rnd) :: (st, instObj 729 std) :: (std, stO i1 i2 i3 j1 j2 j3 hp gd 0 tks) :: (hp, instObj 180 hpd) :: (sl, listOf ws.toArray n') :: (x1 ++ (x2 ++ x3))) (News.sub1 N ?_) ?_ hR
  · k_extra "m sub"
  · have e2 : ∀ p ∈ x2, p ∈ (rn, instObj 623 rnd) :: (st, instObj 729 std) :: (std, stO i1 i2 i3 j1 j2 j3 hp gd 0 tks) :: (hp, instObj 180 hpd) :: (sl, listOf ws.toArray n') :: (x1 ++ (x2 ++ x3)) := fun p hp => by simp [hp]
    have e3 : ∀ p ∈ x3, p ∈ (rn, instObj 623 rnd) :: (st, instObj 729 std) :: (std, stO i1 i2 i3 j1 j2 j3 hp gd 0 tks) :: (hp, instObj 180 hpd) :: (sl, listOf ws.toArray n') :: (x1 ++ (x2 ++ x3)) := fun p hp => by simp [hp]
    exact ⟨.head _, .tail _ (.head _), ⟨i1, i2, i3, j1, j2, j3, tks, .tail _ (.tail _ (.head _))⟩, .tail _ (.tail _ (.tail _ (.head _))), ⟨ws, ns, n', .tail _ (.tail _ (.tail _ (.tail _ (.head _)))), hI, hb⟩, e2 _ hsg, hct.mono e3, hT.mono e2, hG.mono e2, hd, lo1, lo2, f1, f2, f3, f4, f5, f6⟩
theorem law_names {w : World} {rest : Led} {rn rnd hp hpd ct st std sv pd gd sg sgd rk sl tb gl gl2 : Addr} {o : Obj} {num : Int} (_ : LawF w rest rn rnd hp hpd ct st std sv pd gd sg sgd rk sl tb gl gl2 o num) : ∃ rk' sl' : Addr, rk' = rk ∧ sl' = sl := ⟨_, _, rfl, rfl⟩
theorem four_fresh {i : Nat} {nm : Str} (h : four[i]? = some nm) : nm ∉ four.take i := by
  rcases i with _ | _ | _ | _ | i
  · simp
  · obtain rfl := Option.some.inj h; decide
  · obtain rfl := Option.some.inj h; decide
  · obtain rfl := Option.some.inj h; decide
  · simp [four] at h
theorem News.elder {h₀ h : Heap} {L : Addr} {a b c d : Addr × Obj} {l : Led} (N : News h₀ L h (a :: b :: c :: d :: l)) : News h₀ L h (d :: b :: ([] ++ (a :: c :: l))) := News.sub1 N (by k_extra "m sub")
section
variable {w : World} {A : Around} {E : Value → Shared → Prop} {s : Shared} {env : Env} {h₀ : Heap} {x : Str} {body : List Stmt} {Q : Flow → Shared → Prop}
theorem iter_elder {vs : List Value} {m₀ : Str → Option Value} {rn hpd ed Tn : Addr} {l1 l2 l3 k : Int} {u1 u2 u3 tk₀ : Tok} {lim zl : Value} {oe : Obj} {rest : Led}
    (hh : A.handled = none) (hm : (Tn, tupO vs) ∈ rest) (F : Fr h₀ env.locals s.heap m₀) (N : News h₀ env.locals s.heap ((hpd, hpO l1 l2 l3 u1 u2 u3 lim zl k tk₀) :: (ed, oe) :: ([] ++ rest))) (hd : oe.IsDictOf (PySem.strKind PG w) [])
    (turn : ∀ i v (u : Str → Option Value) nx h tk I oI, vs[i]? = some v → ElderJ w rn hpd ed Tn l1 l2 l3 u1 u2 u3 lim zl rest i nx → (∀ p ∈ nx, p.1 ≠ I) → Fr h₀ env.locals h (fun y => if y = x then some v else m₀ y) → News h₀ env.locals h ((I, oI) :: nx) →
      wpAny (model PG w) A (execs body env) (TurnQ h₀ env.locals I oI (fun m' nx' => ElderJ w rn hpd ed Tn l1 l2 l3 u1 u2 u3 lim zl rest (i + 1) nx' ∧ KeepsM x [] m₀ m') { s with heap := h, toks := tk } Q) E { s with heap := h, toks := tk })
    (done : ∀ (u : Option Value) nx h tk, ElderJ w rn hpd ed Tn l1 l2 l3 u1 u2 u3 lim zl rest vs.length nx → Fr h₀ env.locals h (fun y => if y = x then u else m₀ y) → News h₀ env.locals h nx → Q .next { s with heap := h, toks := tk }) :
    wpAny (model PG w) A (pyIter (.ref Tn)) (fun it s₂ => LoopAtV PG w A h₀ env x body Q E it s₂) E s :=
  iter_tupS [] (ElderJ w rn hpd ed Tn l1 l2 l3 u1 u2 u3 lim zl rest) hh (.tail _ (.tail _ (List.mem_append_right _ hm))) F N
    (fun i nx h => by
      obtain ⟨_, _, _, _, _, rfl, _⟩ := h
      exact .tail _ (.tail _ (List.mem_append_right _ hm)))
    ⟨_, _, _, [], [], rfl, rfl, hd, (fun _ h => nomatch h), fun _ h => nomatch h⟩
    (fun i v u nx h tk I oI hv hJ ho F2 N2 => turn i v u nx h tk I oI hv hJ ho (by simpa using F2) N2)
    (fun u nx h tk hJ F2 N2 => done (u x) nx h tk hJ (by
      have e : (fun y => if y = x then u y else if ([] : List Str).contains y = true then u y else m₀ y) = fun y => if y = x then u x else m₀ y := by
        funext y
        by_cases h1 : y = x
        · simp [h1]
        · simp [h1]
      rw [e] at F2
      exact F2) N2)
end
theorem elder_end {w : World} {h₀ h : Heap} {L : Addr} {rn hpd ed Tn I sc b : Addr} {oI o' oe : Obj} {l1 l2 l3 k k' : Int} {u1 u2 u3 tk tk' : Tok} {lim zl : Value} {rest new nw : Led} {xs : List (Str × Addr)} {nm : Str} {i : Nat}
    (N : News h₀ L h ((hpd, hpO l1 l2 l3 u1 u2 u3 lim zl k tk) :: (I, oI) :: (ed, o') :: (nw ++ (new ++ rest)))) (S : ScalarRep nw rn nm sc) (hd : o'.IsDictOf (PySem.strKind PG w) (stored (xs.map fun p => (p.1, Value.ref p.2)) nm (.ref sc))) (A : Above b nw)
    (hT : @LT.lt Nat _ Tn b) (hI : @LT.lt Nat _ I b) (ho : ∀ p ∈ (hpd, hpO l1 l2 l3 u1 u2 u3 lim zl k' tk') :: (ed, oe) :: (new ++ rest), p.1 ≠ I) (hx : xs.map (·.1) = four.take i) (hnm : four[i]? = some nm) (hs : ∀ p ∈ xs, ScalarRep new rn p.1 p.2) (ha : ∀ q ∈ new, @LT.lt Nat _ Tn q.1) :
    ∃ nx', News h₀ L h ((I, oI) :: nx') ∧ (∀ p ∈ nx', p.1 ≠ I) ∧ ElderJ w rn hpd ed Tn l1 l2 l3 u1 u2 u3 lim zl rest (i + 1) nx' := by
  refine ⟨(hpd, hpO l1 l2 l3 u1 u2 u3 lim zl k tk) :: (ed, o') :: ((nw ++ new) ++ rest), News.sub1 N ?_, ?_, k, tk, o', xs ++ [(nm, sc)], nw ++ new, rfl, ?_, ?_, ?_, ?_⟩
  · k_extra "m sub"
  · refine List.forall_mem_cons.mpr ⟨ho (hpd, hpO l1 l2 l3 u1 u2 u3 lim zl k' tk') (.head _), List.forall_mem_cons.mpr ⟨ho (ed, oe) (.tail _ (.head _)), forall_app (forall_app (fun p hp => Nat.ne_of_gt (Nat.lt_of_lt_of_le hI (A p hp))) fun p hp => ho _ (.tail _ (.tail _ (List.mem_append_left _ hp)))) fun p hp => ho _ (.tail _ (.tail _ (List.mem_append_right _ hp)))⟩⟩
  · rw [List.map_append, hx, List.take_add_one, hnm]
    rfl
  · have hf : nm ∉ (xs.map fun p => (p.1, Value.ref p.2)).map (·.1) := by
      rw [List.map_map]
      show nm ∉ xs.map (·.1)
      rw [hx]
      exact four_fresh hnm
    rw [stored_new hf] at hd
    rw [List.map_append]
    exact hd
  · intro p hp
    rcases List.mem_append.mp hp with hp | hp
    · exact (hs p hp).mono fun q hq => List.mem_append_right _ hq
    · rw [List.mem_singleton.mp hp]
      exact S.mono fun q hq => List.mem_append_left _ hq
  · exact forall_app (fun p hp => Nat.lt_of_lt_of_le hT (A p hp)) ha
theorem elder_pack {w : World} {h₀ h : Heap} {L : Addr} {rn ed Tn : Addr} {oe : Obj} {a T b c d e f g : Addr × Obj} {rest new : Led} (N : News h₀ L h (a :: (ed, oe) :: (new ++ (T :: b :: c :: d :: e :: f :: g :: rest)))) (hE : ElderRep w ((ed, oe) :: new) rn ed) (hA : ∀ q ∈ new, @LT.lt Nat _ Tn q.1) :
    ∃ rest2, News h₀ L h (b :: a :: c :: d :: e :: f :: g :: rest2) ∧ (∀ p ∈ rest, p ∈ rest2) ∧ ElderRep w rest2 rn ed ∧ ∀ x : Addr, @LT.lt Nat _ x ed → @LT.lt Nat _ x Tn → (∀ p ∈ rest, p.1 ≠ x) → ∀ p ∈ rest2, p.1 ≠ x := by
  refine ⟨((ed, oe) :: new) ++ rest, News.sub1 N ?_, fun p hp => List.mem_append_right _ hp, hE.mono fun p hp => List.mem_append_left _ hp, fun x h1 h2 h3 => forall_app (List.forall_mem_cons.mpr ⟨Nat.ne_of_gt h1, fun p hp => Nat.ne_of_gt (Nat.lt_trans h2 (hA p hp))⟩) h3⟩
  k_extra "m sub"
/-- what stands between two turns of the law's loops; l: the matches that stand -/
inductive LawJ (w : World) (rn rnd hp hpd ct st sv pd sgd rk sl tl mk : Addr) (gp : Addr × Obj) (rest : Led) (i : Nat) (nx : Led) : Prop
  | mk (l : List Ent) (es : List DictEntry) (n pn c1 c2 c3 nn : Nat) (po : Option Value) (k' : Int) (t' : Tok) (ms : List Value) (new : Led) (h1 h2 h3 l1 l2 l3 k : Int) (t1 t2 t3 u1 u2 u3 tk : Tok) (lv lim zl : Value) (f0 : nx = (sgd, sgO h1 h2 h3 t1 t2 t3 rn lv) :: (hpd, hpO l1 l2 l3 u1 u2 u3 lim zl k tk) :: (rnd, dictOf es n) :: (pd, patX w po pn) :: (sv, listOf (savesL l).toArray c1) :: (rk, listOf #[.ref sl, .int k' t'] nn) :: (tl, listOf (toldL l).toArray c2) :: (mk, listOf ms.toArray c3) :: gp :: (new ++ rest)) (f1 : 0 ≤ k') (f2 : l.length = i) (f3 : RunEs es hp ct st sv pd (cmOf l)) (f4 : po.getD .none = pvOf l) (f5 : Hist w (new ++ rest) l) (f6 : IntsAre ms (marksN l)) (f7 : ∀ q ∈ new, @LT.lt Nat _ mk q.1) : LawJ w rn rnd hp hpd ct st sv pd sgd rk sl tl mk gp rest i nx
section
variable {w : World} {A : Around} {E : Value → Shared → Prop} {s : Shared} {env : Env} {h₀ : Heap} {x : Str} {body : List Stmt} {Q : Flow → Shared → Prop}
theorem iter_law {r : Addr} {i9 : Int} {t₀ u₀ v₀ : Tok} {m₀ : Str → Option Value} {rn rnd hp hpd ct st sv pd sgd rk sl tl mk : Addr} {gp : Addr × Obj} {rest : Led}
    {es : List DictEntry} {n pn c1 c2 c3 nn : Nat} {k' : Int} {t' : Tok} {h1 h2 h3 l1 l2 l3 k : Int} {t1 t2 t3 u1 u2 u3 tk₀ : Tok} {lv lim zl : Value}
    (hh : A.handled = none) (hr : IsRange s.heap r 0 (1 + i9) 1 t₀ u₀ v₀) (h0 : 0 ≤ i9) (h3' : i9 < 3) (F : Fr h₀ env.locals s.heap m₀)
    (N : News h₀ env.locals s.heap ((sgd, sgO h1 h2 h3 t1 t2 t3 rn lv) :: (hpd, hpO l1 l2 l3 u1 u2 u3 lim zl k tk₀) :: (rnd, dictOf es n) :: (pd, patX w none pn) :: (sv, listOf #[] c1) :: (rk, listOf #[.ref sl, .int k' t'] nn) :: (tl, listOf #[.none] c2) :: (mk, listOf #[] c3) :: gp :: ([] ++ rest)))
    (hk : 0 ≤ k') (hR : RunEs es hp ct st sv pd .none)
    (turn : ∀ i t (u : Str → Option Value) nx h tk I oI, i < 3 → LawJ w rn rnd hp hpd ct st sv pd sgd rk sl tl mk gp rest i nx → (∀ p ∈ nx, p.1 ≠ I) → Fr h₀ env.locals h (fun y => if y = x then some (.int (0 + (i : Int)) t) else if [Str.ofString "match"].contains y then u y else m₀ y) → News h₀ env.locals h ((I, oI) :: nx) →
      wpAny (model PG w) A (execs body env) (TurnQ h₀ env.locals I oI (fun m' nx' => LawJ w rn rnd hp hpd ct st sv pd sgd rk sl tl mk gp rest (i + 1) nx' ∧ KeepsM x [Str.ofString "match"] m₀ m') { s with heap := h, toks := tk } Q) E { s with heap := h, toks := tk })
    (done : ∀ j (u : Str → Option Value) nx h tk, j ≤ 3 → LawJ w rn rnd hp hpd ct st sv pd sgd rk sl tl mk gp rest j nx → Fr h₀ env.locals h (fun y => if y = x then u y else if [Str.ofString "match"].contains y then u y else m₀ y) → News h₀ env.locals h nx → Q .next { s with heap := h, toks := tk }) :
    wpAny (model PG w) A (pyIter (.ref r)) (fun it s₂ => LoopAtV PG w A h₀ env x body Q E it s₂) E s := by
  have hn : (((1 + i9).toNat : Nat) : Int) = 1 + i9 := Int.toNat_of_nonneg (by omega)
  refine iter_rangeS (n := (1 + i9).toNat) [Str.ofString "match"] (LawJ w rn rnd hp hpd ct st sv pd sgd rk sl tl mk gp rest) hh hr (small_one (by omega) (by omega) (by omega) (by omega)) (by rw [rangeSize_nat]; omega) F N
    ⟨[], es, n, pn, c1, c2, c3, nn, none, k', t', [], [], h1, h2, h3, l1, l2, l3, k, t1, t2, t3, u1, u2, u3, tk₀, lv, lim, zl, rfl, hk, rfl, hR, rfl, .nil, .nil, fun _ h => nomatch h⟩
    (fun i t u nx h tk I oI hi => turn i t u nx h tk I oI (by omega)) fun u nx h tk => done _ u nx h tk (by omega)
end
theorem News.law {h₀ h : Heap} {L : Addr} {a b c d e f g i j k : Addr × Obj} {r : Led} (N : News h₀ L h (f :: k :: i :: g :: a :: b :: c :: d :: e :: j :: r)) : News h₀ L h (a :: b :: c :: d :: e :: f :: g :: i :: j :: ([] ++ r)) := News.sub1 N (by k_extra "m sub")
theorem mk_names {h₀ h : Heap} {L : Addr} {a b c d e f : Addr × Obj} {tl mk : Addr} {o1 o2 : Obj} {l : Led} (_ : News h₀ L h (a :: b :: c :: d :: e :: f :: (tl, o1) :: (mk, o2) :: l)) : ∃ tl' mk' : Addr, tl' = tl ∧ mk' = mk := ⟨_, _, rfl, rfl⟩
theorem rs_lawt : True := by
  w_top off
  trivial
/-! The law's loops: a turn's plain side -/
theorem sees_law {w : World} {sg sgd rn rnd hp hpd ct st sv pd ed : Addr} {es : List DictEntry} {n pn : Nat} {mv cm pv : Value} {h1 h2 h3 j1 j2 j3 : Int} {t1 t2 t3 u1 u2 u3 : Tok} {lv lim zl : Value} {k : Int} {tk0 : Tok} {R : Led} {cur : Option MD}
    (hR : RunEs es hp ct st sv pd cm) (r1 : (rn, instObj 623 rnd) ∈ R) (e1 : (rnd, dictOf es n) ∈ R) (e2 : (pd, patX w (some pv) pn) ∈ R) (lo2 : (pd == sysModules) = false) (r4 : (hp, instObj 180 hpd) ∈ R) (r6 : (sg, instObj 499 sgd) ∈ R) (r7 : CtRep w R ct) (hE : ElderRep w R rn ed)
    (hM : MatchRep w R mv cur) (hH : Held w R cm pv cur) (z1 : handedIn mv = true) (z2 : handedIn cm = true) (f1 : ∀ p ∈ R, p.1 ≠ sgd) (f2 : ∀ p ∈ R, p.1 ≠ hpd) (hne : @Ne Nat sgd hpd) :
    SpecT w 764 [.ref rn, .ref sg, mv, .ref ed] ((sgd, sgO h1 h2 h3 t1 t2 t3 rn lv) :: (hpd, hpO j1 j2 j3 u1 u2 u3 lim zl k tk0) :: R) 40 (fun r news' => ∃ k' tk', r = .bool true ∧ news' = (sgd, sgO h1 h2 h3 t1 t2 t3 rn .none) :: (hpd, hpO j1 j2 j3 u1 u2 u3 lim zl k' tk') :: R) := by
  refine sees_spec ⟨rnd, es, n, pd, pn, cm, pv, r1, e1, hR.mtch, hR.patterns, lo2, e2, z2, hH⟩ hM ⟨rnd, es, n, r1, e1, hR.heap, r4⟩ ?_ hE r6 f1 f2 hne z1
  obtain ⟨ctd, pl, em, es2, n2, o1, o2, d, e, x, f, g, i, j, k, l, q, r⟩ := r7
  exact ⟨rnd, ct, ctd, pl, em, es, es2, n, n2, o1, o2, r1, e1, hR.counter, d, e, x, f, g, i, j, k, l, q, r⟩
/-- a fact kept out of omega's sight -/
structure Low (I mk : Addr) : Prop where
  lt : @LT.lt Nat _ I mk
theorem held_of {w : World} {news : Led} {M : MD} {tm ga nd pg pgd : Addr} {tt : Tok} {es : List DictEntry} {n : Nat} (ok : M.Ok) (h1 : (tm, tupO [.str M.text tt, .ref ga]) ∈ news) (h2 : GRep news ga M) (h3 : (pg, instObj 666 pgd) ∈ news) (h4 : (pgd, dictOf es n) ∈ news) (h5 : getL (Str.ofString "names") es = some (some (.ref nd))) (h6 : NRep w news nd M) :
    Held w news (.ref tm) (.ref pg) (some M) := ⟨ok, tm, ga, nd, tt, pg, pgd, es, n, rfl, h1, h2, rfl, h3, h4, h5, h6⟩
/-- the end of a turn that sets a match -/
theorem law_step {w : World} {h₀ h : Heap} {L : Addr} {rn rnd hp hpd ct st sv pd sgd rk sl tl mk I : Addr} {gp : Addr × Obj} {oI : Obj} {rest new X : Led} {l : List Ent} {e : Ent} {es : List DictEntry} {n pn c1 c2 c3 nn : Nat} {k' : Int} {t' tm : Tok} {ms : List Value}
    {h1 h2 h3 l1 l2 l3 k : Int} {t1 t2 t3 u1 u2 u3 tk : Tok} {lv lim zl : Value}
    (N : News h₀ L h ((sgd, sgO h1 h2 h3 t1 t2 t3 rn lv) :: (hpd, hpO l1 l2 l3 u1 u2 u3 lim zl k tk) :: (rnd, dictOf es n) :: (pd, patX w (some e.pv) pn) :: (sv, listOf (savesL l ++ [Value.ref e.t]).toArray c1) :: (rk, listOf #[.ref sl, .int k' t'] nn) :: (tl, listOf (toldL l ++ [e.mv]).toArray c2) :: (mk, listOf (ms ++ [Value.int l.length tm]).toArray c3) :: (I, oI) :: gp :: (X ++ (new ++ rest))))
    (hk : 0 ≤ k') (hR : RunEs es hp ct st sv pd e.cm) (hH : Hist w (X ++ (new ++ rest)) (e :: l)) (hms : IntsAre ms (marksN l)) (hnew : ∀ q ∈ new, @LT.lt Nat _ mk q.1) (hX : ∀ q ∈ X, @LT.lt Nat _ mk q.1) (hXI : ∀ q ∈ X, q.1 ≠ I)
    (i1 : @Ne Nat sgd I) (i2 : @Ne Nat hpd I) (i3 : @Ne Nat rnd I) (i4 : @Ne Nat pd I) (i5 : @Ne Nat sv I) (i6 : @Ne Nat rk I) (i7 : @Ne Nat tl I) (i8 : @Ne Nat mk I) (i9 : @Ne Nat gp.1 I) (ho : ∀ p ∈ new ++ rest, p.1 ≠ I) :
    ∃ nx', News h₀ L h ((I, oI) :: nx') ∧ (∀ p ∈ nx', p.1 ≠ I) ∧ LawJ w rn rnd hp hpd ct st sv pd sgd rk sl tl mk gp rest (l.length + 1) nx' := by
  refine ⟨(sgd, sgO h1 h2 h3 t1 t2 t3 rn lv) :: (hpd, hpO l1 l2 l3 u1 u2 u3 lim zl k tk) :: (rnd, dictOf es n) :: (pd, patX w (some e.pv) pn) :: (sv, listOf (savesL (e :: l)).toArray c1) :: (rk, listOf #[.ref sl, .int k' t'] nn) :: (tl, listOf (toldL (e :: l)).toArray c2) :: (mk, listOf (ms ++ [Value.int l.length tm]).toArray c3) :: gp :: ((X ++ new) ++ rest), ?_, ?_,
    e :: l, es, n, pn, c1, c2, c3, nn, some e.pv, k', t', ms ++ [Value.int l.length tm], X ++ new, h1, h2, h3, l1, l2, l3, k, t1, t2, t3, u1, u2, u3, tk, lv, lim, zl, rfl, hk, rfl, hR, rfl, ?_, ints_push hms, forall_app hX hnew⟩
  · rw [savesL_cons, toldL_cons]
    refine News.sub1 N ?_
    k_extra "m sub"
  · have h9 : ∀ p ∈ (X ++ new) ++ rest, p.1 ≠ I := by
      intro p hp
      rcases List.mem_append.mp hp with hp | hp
      · rcases List.mem_append.mp hp with hp | hp
        · exact hXI p hp
        · exact ho p (List.mem_append_left _ hp)
      · exact ho p (List.mem_append_right _ hp)
    exact List.forall_mem_cons.mpr ⟨i1, List.forall_mem_cons.mpr ⟨i2, List.forall_mem_cons.mpr ⟨i3, List.forall_mem_cons.mpr ⟨i4, List.forall_mem_cons.mpr ⟨i5, List.forall_mem_cons.mpr ⟨i6, List.forall_mem_cons.mpr ⟨i7, List.forall_mem_cons.mpr ⟨i8, List.forall_mem_cons.mpr ⟨i9, h9⟩⟩⟩⟩⟩⟩⟩⟩⟩
  · rw [List.append_assoc]
    exact hH
/-- the end of a turn that leaves a scope -/
theorem law_back {w : World} {h₀ h : Heap} {L : Addr} {rn rnd hp hpd ct st sv pd sgd rk sl tl mk : Addr} {gp : Addr × Obj} {rest new : Led} {l : List Ent} {es : List DictEntry} {n pn c1 c2 c3 nn : Nat} {k' : Int} {t' : Tok} {ms : List Value}
    {h1 h2 h3 l1 l2 l3 k : Int} {t1 t2 t3 u1 u2 u3 tk : Tok} {lv lim zl : Value}
    (N : News h₀ L h ((sgd, sgO h1 h2 h3 t1 t2 t3 rn lv) :: (hpd, hpO l1 l2 l3 u1 u2 u3 lim zl k tk) :: (rnd, dictOf es n) :: (pd, patX w (some (pvOf l)) pn) :: (sv, listOf (savesL l).toArray c1) :: (rk, listOf #[.ref sl, .int k' t'] nn) :: (tl, listOf (toldL l).toArray c2) :: (mk, listOf ms.toArray c3) :: gp :: (new ++ rest)))
    (hk : 0 ≤ k') (hR : RunEs es hp ct st sv pd (cmOf l)) (hH : Hist w (new ++ rest) l) (hms : IntsAre ms (marksN l)) (hnew : ∀ q ∈ new, @LT.lt Nat _ mk q.1) :
    ∃ nx', News h₀ L h nx' ∧ LawJ w rn rnd hp hpd ct st sv pd sgd rk sl tl mk gp rest l.length nx' :=
  ⟨_, N, l, es, n, pn, c1, c2, c3, nn, some (pvOf l), k', t', ms, new, h1, h2, h3, l1, l2, l3, k, t1, t2, t3, u1, u2, u3, tk, lv, lim, zl, rfl, hk, rfl, hR, rfl, hH, hms, hnew⟩
section
variable {prog : Program} {w : World} {A : Around} {E : Value → Shared → Prop} {Q : Flow → Shared → Prop} {s : Shared} {env : Env} {h₀ : Heap} {L : Addr}
theorem While_law {test : PySem.Expr} {body : List Stmt} {pos : Pos} {m : Str → Option Value} {news : Led} (J : Nat → Led → Prop) {n₀ : Nat}
    (F : Fr h₀ L s.heap m) (N : News h₀ L s.heap news) (hJ : J n₀ news)
    (turn : ∀ n nx h tk, Fr h₀ L h m → News h₀ L h nx → J n nx →
      wpAny (model prog w) A (isTrue test env (eval test env)) (fun b s₂ =>
        if b = true then wpAny (model prog w) A (execs body env) (WhileStep2 h₀ L s (fun n' m' nx' => m' = m ∧ J n' nx') Q n) E s₂ else Q .next s₂) E { s with heap := h, toks := tk })
    (hE : PassesOwn (model prog w) A env E) :
    wpAny (model prog w) A (exec (.While test body [] pos) env) Q E s :=
  While_inv2 (fun n' m' nx' => m' = m ∧ J n' nx') F N ⟨rfl, hJ⟩ (by
    rintro n m₁ nx h tk F₁ N₁ ⟨rfl, hj⟩
    exact turn n nx h tk F₁ N₁ hj) hE
end
theorem News.lawt {h₀ h : Heap} {L : Addr} {a b c d e x1 x2 x3 x4 x5 f i g j k : Addr × Obj} {nw r : Led} (N : News h₀ L h (a :: b :: c :: d :: e :: x1 :: x2 :: x3 :: x4 :: x5 :: f :: i :: g :: j :: k :: (nw ++ r))) : News h₀ L h (a :: b :: c :: d :: e :: f :: g :: j :: i :: k :: ((x1 :: x2 :: x3 :: x4 :: x5 :: nw) ++ r)) := News.sub1 N (by k_extra "m sub")
theorem above_lt {a b : Addr} {l : Led} (h : @LT.lt Nat _ a b) (A : Above b l) : ∀ q ∈ l, @LT.lt Nat _ a q.1 := fun q hq => Nat.lt_of_lt_of_le h (A q hq)
section
variable {w : World} {A : Around} {E : Value → Shared → Prop} {Q : Flow → Shared → Prop} {s : Shared} {env : Env} {h₀ : Heap} {L : Addr}
theorem While_lawJ {test : PySem.Expr} {body : List Stmt} {pos : Pos} {m : Str → Option Value} {news : Led} {rn rnd hp hpd ct st sv pd sgd rk sl tl mk : Addr} {gp : Addr × Obj} {rest : Led} {j : Nat}
    (F : Fr h₀ L s.heap m) (N : News h₀ L s.heap news) (hJ : LawJ w rn rnd hp hpd ct st sv pd sgd rk sl tl mk gp rest j news) (hj : j ≤ 3)
    (turn : ∀ n nx h tk, n ≤ 3 → Fr h₀ L h m → News h₀ L h nx → LawJ w rn rnd hp hpd ct st sv pd sgd rk sl tl mk gp rest n nx →
      wpAny (model PG w) A (isTrue test env (eval test env)) (fun b s₂ =>
        if b = true then wpAny (model PG w) A (execs body env) (WhileStep2 h₀ L s (fun n' m' nx' => m' = m ∧ n' ≤ 3 ∧ LawJ w rn rnd hp hpd ct st sv pd sgd rk sl tl mk gp rest n' nx') Q n) E s₂ else Q .next s₂) E { s with heap := h, toks := tk })
    (hE : PassesOwn (model PG w) A env E) :
    wpAny (model PG w) A (exec (.While test body [] pos) env) Q E s :=
  While_law (fun n nx => n ≤ 3 ∧ LawJ w rn rnd hp hpd ct st sv pd sgd rk sl tl mk gp rest n nx) F N ⟨hj, hJ⟩ (fun n nx h tk F N hJ => turn n nx h tk hJ.1 F N hJ.2) hE
end
theorem Hist.tail {w : World} {news : Led} {e : Ent} {l : List Ent} (h : Hist w news (e :: l)) : ∃ tt, (e.t, tupO [.str (Str.ofString "match") tt, cmOf l, pvOf l]) ∈ news ∧ Hist w news l := by
  cases h with
  | cons a b c d e r => exact ⟨_, e, r⟩
theorem above_lt2 {a b : Addr} {l : Led} (A : Above b l) (h : @LT.lt Nat _ a b) : ∀ q ∈ l, @LT.lt Nat _ a q.1 := above_lt h A
theorem News.lawb {h₀ h : Heap} {L : Addr} {a b c d e f g j k x : Addr × Obj} {r : Led} (N : News h₀ L h (a :: b :: g :: c :: d :: e :: j :: x :: f :: k :: r)) : News h₀ L h (a :: b :: c :: d :: e :: f :: g :: j :: k :: r) := News.sub1 N (by k_extra "m sub")
theorem rs_law : True := by
  w_top off
  trivial
theorem kw10_all : True := by
  k_with "kroom" => k_dflt (exact Nat.le_of_ble_eq_true rfl)
  k_with "kunits" => k_dflt (exact Nat.le_of_ble_eq_true rfl)
  trivial
local macro_rules | `(tactic| walk_at "call type:range") => `(tactic| (k_here; k_dflt (refine' range1_rows ?k1 ?k2 ?_; (case k1 => k_asm); (case k2 => k_asm)); intro h9 tk9 t9 u9 v9 hR9 F9 N9 hk9; (try k_sweep)))
set_option maxRecDepth 100000 in
set_option maxHeartbeats 8000000 in
theorem lawW : pb Mine.k := by
  delta Mine.pb
  k_go0
  (all_goals try k_fold)
  generalize hG : GoodW _ _ _ _ _ = G
  generalize hgg : Shared.gens _ = gg
  generalize hdd : Shared.drawn _ = dd
  generalize hoo : Shared.os _ = oo
  revert G gg dd oo
  refine opq ?_
  intro G hG gg hgg dd hdd oo hoo
  k_extra "fA"
  (repeat ((fail_if_success (with_reducible show wpAny _ _ (call (Value.ref 645) _) _ _ _)); (first | (k_unfold; (try dsimp only)) | walk1 | (dsimp only; walk1))))
  with_reducible (k_here; (with_reducible show wpAny _ _ (call (Value.ref 645) _) _ _ _); k_dflt (refine' Spec.use1e limits_spec ?k1 ?k2 ?k3 ?k4 ?k5 ?kK ?kd ?ku ?_; (case k1 => k_asm); (case k2 => k_asm); (case k3 => k_asm); (case k4 => k_asm); (case k5 => k_asm); (case kK => first | exact rfl | assumption); (case kd => ktr_room); (case ku => ktr_units)); intro lmA h9 tk9 F9 N9; (try k_sweep); (try dsimp only); (try k_fold))
  (repeat ((fail_if_success (with_reducible show wpAny _ _ (call (Value.ref 180) _) _ _ _)); (first | (k_unfold; (try dsimp only)) | walk1 | (dsimp only; walk1))))
  with_reducible (k_here; (with_reducible show wpAny _ _ (call (Value.ref 180) _) _ _ _); k_dflt (refine' Spec.use10 heap_spec ?k1 ?k2 ?k3 ?k4 ?k5 ?kK ?kd ?ku ?_; (case k1 => k_asm); (case k2 => k_asm); (case k3 => k_asm); (case k4 => k_asm); (case k5 => k_asm); (case kK => first | exact rfl | assumption); (case kd => ktr_room); (case ku => ktr_units)); intro hp hpd zl9 i9 j9 l9 u9 v9 w9 x9 h9 tk9 F9 N9 p9; refine' an2 p9 ?_; clear p9; intro q9 b9; (have b9a := fun p hp => Nat.lt_trans (b9 p hp) q9); (try k_lt b9); (try k_lt b9a); (try k_sweep); (try dsimp only); (try k_fold))
  (repeat ((fail_if_success (with_reducible show wpAny _ _ (call (Value.ref 602) _) _ _ _)); (first | (k_unfold; (try dsimp only)) | walk1 | (dsimp only; walk1))))
  with_reducible (k_here; (with_reducible show wpAny _ _ (call (Value.ref 602) _) _ _ _); k_dflt (refine' Spec.use3 counter_spec ?k1 ?k2 ?k3 ?k4 ?k5 ?kK ?kd ?ku ?_; (case k1 => k_asm); (case k2 => k_asm); (case k3 => k_asm); (case k4 => k_asm); (case k5 => k_asm); (case kK => first | exact rfl | assumption); (case kd => ktr_room); (case ku => ktr_units)); intro ct nw9 c9 h9 tk9 F9 N9 p9; refine' an3 p9 ?_; clear p9; intro CT9 b9 A9; (replace N9 := News.sink (by repeat (first | apply Sink.cons | exact Sink.base)) N9); (try simp only [List.append_nil] at N9); (try k_lt b9); (try k_sweep); (try dsimp only); (try k_fold))
  (repeat ((fail_if_success (with_reducible show wpAny _ _ (call (Value.ref 729) _) _ _ _)); (first | (k_unfold; (try dsimp only)) | walk1 | (dsimp only; walk1))))
  with_reducible (k_here; (with_reducible show wpAny _ _ (call (Value.ref 729) _) _ _ _); k_dflt (refine' Spec.use11 stash_spec ?k1 ?k2 ?k3 ?k4 ?k5 ?kK ?kd ?ku ?_; (case k1 => k_asm); (case k2 => k_asm); (case k3 => k_asm); (case k4 => k_asm); (case k5 => k_asm); (case kK => first | exact rfl | assumption); (case kd => ktr_room); (case ku => ktr_units)); intro st std gd o9 i9 j9 l9 u9 v9 w9 x9 h9 tk9 F9 N9 p9; refine' an5 p9 ?_; clear p9; intro D9 lo9 q9 q9' b9; (have q9a := Nat.lt_trans q9 q9'); (have b9a := fun p hp => Nat.lt_trans (b9 p hp) q9); (have b9b := fun p hp => Nat.lt_trans (b9 p hp) q9a); (try k_lt b9); (try k_lt b9a); (try k_lt b9b); (try k_sweep); (try dsimp only); (try k_fold))
  (repeat ((fail_if_success (with_reducible show wpAny _ _ (call (Value.ref 645) _) _ _ _)); (first | (k_unfold; (try dsimp only)) | walk1 | (dsimp only; walk1))))
  with_reducible (k_here; (with_reducible show wpAny _ _ (call (Value.ref 645) _) _ _ _); k_dflt (refine' Spec.use1e limits_spec ?k1 ?k2 ?k3 ?k4 ?k5 ?kK ?kd ?ku ?_; (case k1 => k_asm); (case k2 => k_asm); (case k3 => k_asm); (case k4 => k_asm); (case k5 => k_asm); (case kK => first | exact rfl | assumption); (case kd => ktr_room); (case ku => ktr_units)); intro lmB h9 tk9 F9 N9; (try k_sweep); (try dsimp only); (try k_fold))
  (repeat ((fail_if_success (with_reducible show wpAny _ _ (call (Value.ref 623) _) _ _ _)); (first | (k_unfold; (try dsimp only)) | walk1 | (dsimp only; walk1))))
  with_reducible (k_here; (with_reducible show wpAny _ _ (call (Value.ref 623) _) _ _ _); k_dflt (refine' Spec.use8 run_spec ?k1 ?k2 ?k3 ?k4 ?k5 ?kK ?kd ?ku ?_; (case k1 => k_asm); (case k2 => k_asm); (case k3 => k_asm); (case k4 => k_asm); (case k5 => k_asm); (case kK => first | exact rfl | assumption); (case kd => ktr_room); (case ku => ktr_units)); intro rn rnd sv pd es9 nx9 pn9 c9 h9 tk9 F9 N9 p9; refine' an7 p9 ?_; clear p9; intro R9 lo9 q9 q9' q9'' q9n b9; (have q9a := Nat.lt_trans q9 q9'); (have q9c := Nat.lt_trans q9 q9''); (have b9a := fun p hp => Nat.lt_trans (b9 p hp) q9); (have b9b := fun p hp => Nat.lt_trans (b9 p hp) q9a); (have b9c := fun p hp => Nat.lt_trans (b9 p hp) q9c); (try k_lt b9); (try k_lt b9a); (try k_lt b9b); (try k_lt b9c); (try k_sweep); (try dsimp only); (try k_fold))
  (repeat ((fail_if_success (with_reducible show wpAny _ _ (call (Value.ref 510) _) _ _ _)); (first | (k_unfold; (try dsimp only)) | walk1 | (dsimp only; walk1))))
  with_reducible (k_here; (with_reducible show wpAny _ _ (call (Value.ref 510) _) _ _ _); k_dflt (refine' Spec.use15 (glob_first2 ?a0 ?a1 ?a2 ?a3 ?a4 ?a5 ?a6 ?d0 ?lo ?o1 ?o2 ?o3) ?k1 ?k2 ?k3 (News.pull (Pull.tail ?P2) (News.pull ?P ?k4)) ?k5 ?kK ?kd ?ku ?_; (case a0 => assumption); (case d0 => assumption); (case k1 => k_asm); (case k2 => k_asm); (case k3 => k_asm); (case k4 => k_asm); (case k5 => k_asm); (case kK => first | exact rfl | assumption); (case P => repeat (first | exact Pull.head | apply Pull.tail)); (case P2 => repeat (first | exact Pull.head | apply Pull.tail)); (case a1 => k_mem); (case a2 => k_mem); (case a3 => k_mem); (case a4 => k_mem); (case a5 => k_mem); (case a6 => k_mem); (case lo => assumption); (case o1 => k_all); (case o2 => k_all); (case o3 => first | assumption | exact Nat.ne_of_lt (by assumption) | exact Nat.ne_of_gt (by assumption)); (case kd => ktr_room); (case ku => ktr_units)); intro tb sg sgd gl9 o9 k9 x9 i9 j9 l9 u9 v9 w9 nm9 nw9 h9 tk9 F9 N9 p9; refine' an5 p9 ?_; clear p9; intro M9 TR9 GR9 D9 p9; refine' ex1 p9 ?_; clear p9; intro bb9 p9; refine' an8 p9 ?_; clear p9; intro q9 q9' b9 A9 p9 p9' c9 s9; (try k_lt b9); (try k_lt c9); (replace N9 := News.under (News.under (News.under (News.sink (by repeat (first | apply Sink.cons | exact Sink.base))))) N9); (try simp only [List.append_nil] at N9); (have TR9' := TR9); k_dflt (obtain ⟨tbd9, es9, nn9, tkn9, z1, z2, z3, z4⟩ := TR9'); (try k_sweep); (try dsimp only); (try k_fold))
  (repeat ((fail_if_success (with_reducible show wpAny _ _ (call (Value.ref 510) _) _ _ _)); (first | (k_unfold; (try dsimp only)) | walk1 | (dsimp only; walk1))))
  with_reducible (k_here; (with_reducible show wpAny _ _ (call (Value.ref 510) _) _ _ _); k_dflt (refine' Spec.use7 (glob_other2 ?a0 ?a1 ?a2 ?a3 ?a4 ?a5 ?a6 ?d0 ?lo ?o1 ?o2 ?o3) ?k1 ?k2 ?k3 (News.pull (Pull.tail ?P2) (News.pull ?P ?k4)) ?k5 ?kK ?kd ?ku ?_; (case a0 => assumption); (case d0 => assumption); (case k1 => k_asm); (case k2 => k_asm); (case k3 => k_asm); (case k4 => k_asm); (case k5 => k_asm); (case kK => first | exact rfl | assumption); (case P => repeat (first | exact Pull.head | apply Pull.tail)); (case P2 => repeat (first | exact Pull.head | apply Pull.tail)); (case a1 => k_mem); (case a2 => k_mem); (case a3 => k_mem); (case a4 => k_mem); (case a5 => k_mem); (case a6 => k_mem); (case lo => assumption); (case o1 => k_all); (case o2 => k_all); (case o3 => first | assumption | exact Nat.ne_of_lt (by assumption) | exact Nat.ne_of_gt (by assumption)); (case kd => ktr_room); (case ku => ktr_units)); intro tb2 gl9 o9 k9 x9 nm9 nw9 h9 tk9 F9 N9 p9; refine' an3 p9 ?_; clear p9; intro TR9 D9 p9; refine' ex1 p9 ?_; clear p9; intro bb9 p9; refine' an4 p9 ?_; clear p9; intro q9 q9' b9 A9; (try k_lt b9); (replace N9 := News.under (News.under (News.sink (by repeat (first | apply Sink.cons | exact Sink.base)))) N9); (try simp only [List.append_nil] at N9); (have TR9' := TR9); k_dflt (obtain ⟨tbd9, es9, nn9, tkn9, z1, z2, z3, z4⟩ := TR9'); (try k_sweep); (try dsimp only); (try k_fold))
  repeat ((fail_if_success (with_reducible show wpAny _ _ (execs (Stmt.Assign [PySem.Expr.Name (Str.ofString "elder") _] _ _ :: _) _) _ _ _)); (first | (k_unfold; (try dsimp only)) | walk1 | (dsimp only; walk1)))
  dsimp only
  have hlen40 : ∀ l : List Int, (l.take 40).length ≤ 40 := fun l => by rw [List.length_take]; exact Nat.min_le_left _ _
  have nes : ∀ {a b : Nat}, a < b → a ≠ b ∧ b ≠ a := fun h => ⟨Nat.ne_of_lt h, Nat.ne_of_gt h⟩
  with_reducible rename News _ _ _ _ => N0
  refine' law_pack ?N ?hR ?hI (hlen40 _) ?hct ?hsg ?hT ?hG ?hd ?lo1 ?lo2 ?f1 ?f2 ?f3 ?f4 ?f5 ?f6 ?_
  case hR => assumption
  case hct => assumption
  case N => exact N0
  case hI => assumption
  case hsg => assumption
  case hT => assumption
  case hG => assumption
  case hd => assumption
  case lo1 => assumption
  case lo2 => assumption
  case f1 => k_all
  case f2 => k_all
  case f3 => k_all
  case f4 => k_all
  case f5 => k_all
  case f6 => k_all
  with_reducible rename Fr _ _ _ _ => FL
  intro rest NL LF RE
  clear N0
  obtain ⟨rk, sl, e0, e1⟩ := law_names LF
  subst e0
  subst e1
  obtain ⟨r1, r2, ⟨q1, q2, q3, q4, q5, q6, q7, r3⟩, r4, ⟨vs, ns, nn, r5, hI, hb⟩, r6, r7, r8, r9, dG, lo1, lo2, f1, f2, f3, f4, f5, f6⟩ := LF
  have g1 : @Ne Nat sgd hpd := by first | exact Nat.ne_of_lt (by assumption) | exact Nat.ne_of_gt (by assumption)
  have g2 : @Ne Nat sgd rnd := by first | exact Nat.ne_of_lt (by assumption) | exact Nat.ne_of_gt (by assumption)
  have g3 : @Ne Nat sgd pd := by first | exact Nat.ne_of_lt (by assumption) | exact Nat.ne_of_gt (by assumption)
  have g4 : @Ne Nat sgd sv := by first | exact Nat.ne_of_lt (by assumption) | exact Nat.ne_of_gt (by assumption)
  have g5 : @Ne Nat sgd rk := by first | exact Nat.ne_of_lt (by assumption) | exact Nat.ne_of_gt (by assumption)
  have g6 : @Ne Nat sgd gd := by first | exact Nat.ne_of_lt (by assumption) | exact Nat.ne_of_gt (by assumption)
  have g7 : @Ne Nat hpd rnd := by first | exact Nat.ne_of_lt (by assumption) | exact Nat.ne_of_gt (by assumption)
  have g8 : @Ne Nat hpd pd := by first | exact Nat.ne_of_lt (by assumption) | exact Nat.ne_of_gt (by assumption)
  have g9 : @Ne Nat hpd sv := by first | exact Nat.ne_of_lt (by assumption) | exact Nat.ne_of_gt (by assumption)
  have g10 : @Ne Nat hpd rk := by first | exact Nat.ne_of_lt (by assumption) | exact Nat.ne_of_gt (by assumption)
  have g11 : @Ne Nat hpd gd := by first | exact Nat.ne_of_lt (by assumption) | exact Nat.ne_of_gt (by assumption)
  have g12 : @Ne Nat rnd pd := by first | exact Nat.ne_of_lt (by assumption) | exact Nat.ne_of_gt (by assumption)
  have g13 : @Ne Nat rnd sv := by first | exact Nat.ne_of_lt (by assumption) | exact Nat.ne_of_gt (by assumption)
  have g14 : @Ne Nat rnd rk := by first | exact Nat.ne_of_lt (by assumption) | exact Nat.ne_of_gt (by assumption)
  have g15 : @Ne Nat rnd gd := by first | exact Nat.ne_of_lt (by assumption) | exact Nat.ne_of_gt (by assumption)
  have g16 : @Ne Nat pd sv := Ne.symm (by with_reducible assumption)
  have g17 : @Ne Nat pd rk := by first | exact Nat.ne_of_lt (by assumption) | exact Nat.ne_of_gt (by assumption)
  have g18 : @Ne Nat pd gd := by first | exact Nat.ne_of_lt (by assumption) | exact Nat.ne_of_gt (by assumption)
  have g19 : @Ne Nat sv rk := by first | exact Nat.ne_of_lt (by assumption) | exact Nat.ne_of_gt (by assumption)
  have g20 : @Ne Nat sv gd := by first | exact Nat.ne_of_lt (by assumption) | exact Nat.ne_of_gt (by assumption)
  have g21 : @Ne Nat rk gd := by first | exact Nat.ne_of_lt (by assumption) | exact Nat.ne_of_gt (by assumption)
  repeat (with_reducible rename LT.lt _ _ => zz; clear zz)
  repeat (with_reducible rename AllLt _ _ => zz; clear zz)
  repeat (with_reducible rename Above _ _ => zz; clear zz)
  repeat ((fail_if_success (with_reducible show wpAny _ _ (pyIter _) _ _ _)); (first | (k_unfold; (try dsimp only)) | k_extra "r lawm_1" | walk1 | (dsimp only; walk1)))
  with_reducible rename News _ _ _ _ => N1
  with_reducible rename Fr _ _ _ _ => F1
  rename_i ed hed0 oe0 loe hse fse hie fie a1 a2 a3 a4 a5 a6 a7 a8 hT1 Tn hT2 c0 c1 c2 c3 c4 c5 c6 c7 c8
  have N2 := News.elder N1
  clear N1 hie fie fse
  have hRh := RE.heap
  refine iter_elder (rn := rn) rfl List.mem_cons_self F1 N2 hse ?turn ?done
  case turn =>
    rintro i v u nx h tk I oI hv ⟨k, tk2, oe, xs, new, rfl, hx, hd, hs, ha⟩ ho F2 N2
    replace F2 : Fr _ _ h _ := F2
    obtain ⟨nm, tn, rfl, hnm⟩ : ∃ nm tn, v = .str nm tn ∧ four[i]? = some nm := by
      rcases i with _ | _ | _ | _ | i
      · exact exI2 ⟨(Option.some.inj hv).symm, rfl⟩
      · exact exI2 ⟨(Option.some.inj hv).symm, rfl⟩
      · exact exI2 ⟨(Option.some.inj hv).symm, rfl⟩
      · exact exI2 ⟨(Option.some.inj hv).symm, rfl⟩
      · simp at hv
    have hxl : (xs.map fun p => (p.1, Value.ref p.2)).length ≤ 4 := by
      rw [List.length_map, ← List.length_map (f := fun p => p.1), hx, List.length_take]
      exact Nat.min_le_right _ _
    have b1 : @Ne Nat hpd I := ho _ (.head _)
    have b2 : @Ne Nat ed I := ho _ (.tail _ (.head _))
    have b3 : @Ne Nat hpd ed := Nat.ne_of_lt a2
    have b4 : ∀ p ∈ new, p.1 ≠ hpd := fun p hp => Nat.ne_of_gt (Nat.lt_trans c2 (ha p hp))
    have b5 : ∀ p ∈ new, p.1 ≠ ed := fun p hp => Nat.ne_of_gt (Nat.lt_trans c0 (ha p hp))
    k_unmd
    k_fold
    (repeat ((fail_if_success (with_reducible show wpAny _ _ (call (Value.ref 433) _) _ _ _)); (first | (k_unfold; (try dsimp only)) | walk1 | (dsimp only; walk1))))
    with_reducible (k_here; (with_reducible show wpAny _ _ (call (Value.ref 433) _) _ _ _); k_dflt (refine' Spec.use4 (elem_spec2 (mem_up ?m1 ?m2) ?b2 (mem_up ?m3 ?m4) ?b4 ?b5 (mem_up ?m5 ?m6) ?b7) ?k1 ?k2 ?k3 (News.pull ?P ?k4) ?k5 ?kK ?kd ?ku ?_; (case m1 => with_reducible assumption); (case m3 => with_reducible assumption); (case m5 => with_reducible assumption); (case k1 => k_asm); (case k2 => k_asm); (case k3 => k_asm); (case k4 => k_asm); (case k5 => k_asm); (case kK => first | exact rfl | assumption); (case P => repeat (first | exact Pull.head | apply Pull.tail)); (case m2 => (intro p9 hp9; k_mem)); (case m4 => (intro p9 hp9; k_mem)); (case m6 => (intro p9 hp9; k_mem)); (case b2 => k_mem); (case b4 => k_mem); (case b5 => assumption); (case b7 => k_all); (case kd => ktr_room); (case ku => ktr_units)); intro sc9 nw9 tk9' b9 h9 tk9 F9 N9 p9; refine' an3 p9 ?_; clear p9; intro S9 z92 A9; refine' an2 z92 ?_; clear z92; intro hb9 B9; (replace N9 := News.sink1 N9 (by repeat (first | apply Sink.cons | exact Sink.base))); (try k_lt B9); (try k_sweep); (try dsimp only); (try k_fold))
    repeat' (first | (k_unfold; (try dsimp only)) | k_extra "r macros_5" | (k_end; kc_close) | walk1 | (dsimp only; walk1) | (leave1; walk_say "STEP leave1"; (try dsimp only)))
    with_reducible rename News _ _ _ _ => N6
    with_reducible rename Fr _ _ _ _ => F6
    with_reducible rename ScalarRep _ _ _ _ => S6
    with_reducible rename Above _ _ => A6
    with_reducible rename Obj.IsDictOf _ _ _ => d6
    obtain ⟨nx', y1, y2, y3⟩ := elder_end N6 S6 d6 A6 (by assumption) (by assumption) ho hx hnm hs ha
    exact exI4 (a4 := nx') ⟨rfl, F6, y1, y2, y3, fun z h1 _ => by simp only [if_neg h1]⟩
  case done =>
    rintro u nx h tk hJ F2 N2
    replace F2 : Fr _ _ h _ := F2
    obtain ⟨k2, tk2, oe, new, rfl, hE, hA⟩ := hJ.elder loe
    obtain ⟨rest2, N3, hsub, hE2, hf⟩ := elder_pack N2 hE hA
    have f1' := hf sgd a1 c1 f1
    have f2' := hf hpd a2 c2 f2
    have f3' := hf rnd a3 c3 f3
    have f4' := hf pd a4 c4 f4
    have f5' := hf sv a5 c5 f5
    have f6' := hf rk a6 c6 f6
    replace r1 := hsub _ r1
    replace r2 := hsub _ r2
    replace r3 := hsub _ r3
    replace r4 := hsub _ r4
    replace r5 := hsub _ r5
    replace r6 := hsub _ r6
    replace r7 := r7.mono hsub
    replace r8 := r8.mono hsub
    replace r9 := r9.mono hsub
    clear N2 hE hA hf f1 f2 f3 f4 f5 f6 hsub
    clear a1 a2 a3 a4 a5 a6 a7 a8 c0 c1 c2 c3 c4 c5 c6 c7 c8
    k_unmd
    repeat ((fail_if_success (with_reducible show wpAny _ _ (pyIter _) _ _ _)); (first | (k_unfold; (try dsimp only)) | k_extra "r macros_7" | k_extra "r seesr_12" | walk1 | (dsimp only; walk1)))
    with_reducible rename IsRange _ _ _ _ _ _ _ _ => hR9
    with_reducible rename Fr _ _ _ _ => F4
    with_reducible rename News _ _ _ _ => N4
    have N5 := News.law N4
    clear N4
    obtain ⟨tl, mk, e1, e2⟩ := mk_names N5
    subst e1
    subst e2
    have hmk : @LT.lt Nat _ sgd mk ∧ @LT.lt Nat _ hpd mk ∧ @LT.lt Nat _ rnd mk ∧ @LT.lt Nat _ pd mk ∧ @LT.lt Nat _ sv mk ∧ @LT.lt Nat _ rk mk ∧ @LT.lt Nat _ gd mk ∧ @LT.lt Nat _ tl mk := ⟨by assumption, by assumption, by assumption, by assumption, by assumption, by assumption, by assumption, by assumption⟩
    have i1 : @Ne Nat sgd tl := Nat.ne_of_lt (by assumption)
    have i2 : @Ne Nat hpd tl := Nat.ne_of_lt (by assumption)
    have i3 : @Ne Nat rnd tl := Nat.ne_of_lt (by assumption)
    have i4 : @Ne Nat pd tl := Nat.ne_of_lt (by assumption)
    have i5 : @Ne Nat sv tl := Nat.ne_of_lt (by assumption)
    have i6 : @Ne Nat rk tl := Nat.ne_of_lt (by assumption)
    have i7 : @Ne Nat gd tl := Nat.ne_of_lt (by assumption)
    have i8 : @Ne Nat sgd mk := Nat.ne_of_lt (by assumption)
    have i9' : @Ne Nat hpd mk := Nat.ne_of_lt (by assumption)
    have i10 : @Ne Nat rnd mk := Nat.ne_of_lt (by assumption)
    have i11 : @Ne Nat pd mk := Nat.ne_of_lt (by assumption)
    have i12 : @Ne Nat sv mk := Nat.ne_of_lt (by assumption)
    have i13 : @Ne Nat rk mk := Nat.ne_of_lt (by assumption)
    have i14 : @Ne Nat gd mk := Nat.ne_of_lt (by assumption)
    have i15 : @Ne Nat tl mk := Nat.ne_of_lt (by assumption)
    have f7' : ∀ p ∈ rest2, p.1 ≠ tl := allLt_ne (by assumption)
    have f8' : ∀ p ∈ rest2, p.1 ≠ mk := allLt_ne (by assumption)
    refine iter_law rfl hR9 (by with_reducible assumption) (by with_reducible assumption) F4 N5 (Int.le_of_lt (Int.lt_add_one_of_le (Int.le_refl 0))) RE ?turn ?done
    case turn =>
      have hml := Low.mk hmk.2.2.2.2.2.2.2
      have hg1 : Low sgd mk := ⟨hmk.1⟩
      have hg2 : Low hpd mk := ⟨hmk.2.1⟩
      have hg3 : Low rnd mk := ⟨hmk.2.2.1⟩
      have hg4 : Low pd mk := ⟨hmk.2.2.2.1⟩
      have hg5 : Low sv mk := ⟨hmk.2.2.2.2.1⟩
      have hg6 : Low rk mk := ⟨hmk.2.2.2.2.2.1⟩
      have hg7 : Low gd mk := ⟨hmk.2.2.2.2.2.2.1⟩
      clear hmk
      repeat (with_reducible rename LT.lt _ _ => zz; clear zz)
      repeat (with_reducible rename AllLt _ _ => zz; clear zz)
      repeat (with_reducible rename Above _ _ => zz; clear zz)
      rintro i t u' nx h tk I oI hi3 hJ ho F5 N6
      obtain ⟨l, es, n, pn, c1, c2, c3, nn, po, k', t', ms, new, h1, h2, h3, l1, l2, l3, k, t1, t2, t3, u1, u2, u3, tk0, lv, lim, zl, hnx, hk', hil, hRE, hpo, hHi, hms, hnew⟩ := hJ
      subst hnx
      subst hil
      have w1 : @Ne Nat sgd I := ho _ (.head _)
      have w2 : @Ne Nat hpd I := ho _ (.tail _ (.head _))
      have w3 : @Ne Nat rnd I := ho _ (.tail _ (.tail _ (.head _)))
      have w4 : @Ne Nat pd I := ho _ (.tail _ (.tail _ (.tail _ (.head _))))
      have w5 : @Ne Nat sv I := ho _ (.tail _ (.tail _ (.tail _ (.tail _ (.head _)))))
      have w6 : @Ne Nat rk I := ho _ (.tail _ (.tail _ (.tail _ (.tail _ (.tail _ (.head _))))))
      have w7 : @Ne Nat tl I := ho _ (.tail _ (.tail _ (.tail _ (.tail _ (.tail _ (.tail _ (.head _)))))))
      have w8 : @Ne Nat mk I := ho _ (.tail _ (.tail _ (.tail _ (.tail _ (.tail _ (.tail _ (.tail _ (.head _))))))))
      have w9 : @Ne Nat gd I := ho _ (.tail _ (.tail _ (.tail _ (.tail _ (.tail _ (.tail _ (.tail _ (.tail _ (.head _)))))))))
      have hoR : ∀ p ∈ new ++ rest2, p.1 ≠ I := fun p hp => ho p (.tail _ (.tail _ (.tail _ (.tail _ (.tail _ (.tail _ (.tail _ (.tail _ (.tail _ hp)))))))))
      have hoA : ∀ p ∈ new, p.1 ≠ I := fun p hp => hoR p (List.mem_append_left _ hp)
      have hoB : ∀ p ∈ rest2, p.1 ≠ I := fun p hp => hoR p (List.mem_append_right _ hp)
      clear ho
      have up : ∀ {a : Addr}, Low a mk → ∀ p ∈ new, p.1 ≠ a := fun ha p hp => Nat.ne_of_gt (Nat.lt_trans ha.lt (hnew p hp))
      have y1 := up hg1
      have y2 := up hg2
      have y3 := up hg3
      have y4 := up hg4
      have y5 := up hg5
      have y6 := up hg6
      have y7 := up hg7
      have y8 := up hml
      have y9 : ∀ p ∈ new, p.1 ≠ mk := fun p hp => Nat.ne_of_gt (hnew p hp)
      have hRs := hRE.saves
      have hsl : (savesL l).length ≤ 10 := by rw [savesL_len]; omega
      have htl : (toldL l).length ≤ 10 := by rw [toldL_len]; omega
      have hmsl : ms.length ≤ 10 := by rw [hms.length, marksN_len]; omega
      obtain ⟨cu1, cu2, cu3, cu4⟩ := hHi.cur
      k_unmd
      k_fold
      (repeat ((fail_if_success (with_reducible show wpAny _ _ (call (Value.ref 747) _) _ _ _)); (first | (k_unfold; (try dsimp only)) | walk1 | (dsimp only; walk1))))
      with_reducible (k_here; (with_reducible show wpAny _ _ (call (Value.ref 747) _) _ _ _); k_dflt (refine' Spec.use (match_spec (mem_up ?m1 ?m2) ?a1 ?a2 ?a3 ?a4) ?k1 ?k2 ?k3 (News.pull ?P ?k4) ?k5 ?kK ?kd ?ku ?_; (case m1 => with_reducible assumption); (case a1 => assumption); (case k1 => k_asm); (case k2 => k_asm); (case k3 => k_asm); (case k4 => k_asm); (case k5 => k_asm); (case kK => first | exact rfl | assumption); (case P => repeat (first | exact Pull.head | apply Pull.tail)); (case m2 => (intro p9 hp9; k_mem)); (case a2 => assumption); (case a3 => assumption); (case a4 => k_all); (case kd => ktr_room); (case ku => ktr_units)); intro r9 n9 h9 tk9 F9 N9 p9; refine' ex6 p9 ?_; clear p9; intro M9 k9 tk9' nn9 nw9 b9 p9; refine' an6 p9 ?_; clear p9; intro e9 hk9 MR9 hh9 z93 A9; refine' an2 z93 ?_; clear z93; intro hb9 B9; subst e9; (replace N9 := News.sink1 N9 (by repeat (first | apply Sink.cons | exact Sink.base))); (try k_lt B9); (have MR9' := MR9); k_dflt (obtain ⟨ok9, tm9, ga9, nd9, tt9, e9, z9, G9, R9⟩ := MR9'); subst e9; (have hgl9 := ok9.glen); (have G9' := G9); k_dflt (obtain ⟨gv9, gn9, ga9', gl9, gg9⟩ := G9'); (try k_sweep); (try dsimp only); (try k_fold))
      (repeat ((fail_if_success (with_reducible show wpAny _ _ (call (Value.ref 666) _) _ _ _)); (first | (k_unfold; (try dsimp only)) | k_extra "r pairs_7" | walk1 | (dsimp only; walk1))))
      with_reducible (k_here; (with_reducible show wpAny _ _ (call (Value.ref 666) _) _ _ _); k_dflt (refine' Spec.use4 prog_spec ?k1 ?k2 ?k3 ?k4 ?k5 ?kK ?kd ?ku ?_; (case k1 => k_asm); (case k2 => k_asm); (case k3 => k_asm); (case k4 => k_asm); (case k5 => k_asm); (case kK => first | exact rfl | assumption); (case kd => ktr_room); (case ku => ktr_units)); intro pg9 pgd9 es9 n9 h9 tk9 F9 N9 p9; refine' an3 p9 ?_; clear p9; intro g9 b9 q9; (have b9a := fun p hp => Nat.lt_trans (b9 p hp) q9); (try k_lt b9); (try k_lt b9a); (try k_sweep); (try dsimp only); (try k_fold))
      (repeat ((fail_if_success (with_reducible show wpAny _ _ (call (Value.ref 234) _) _ _ _)); (first | (k_unfold; (try dsimp only)) | walk1 | (dsimp only; walk1))))
      with_reducible (k_here; (with_reducible show wpAny _ _ (call (Value.ref 234) _) _ _ _); k_dflt (refine' Spec.use6 (set_match_spec ?a0 ?a1 (mem_up ?m1 ?m2) ?a3 ?a4 ?o1 ?o2 ?o3 ?n1 ?n2 ?n3) ?k1 ?k2 ?k3 (News.pull (Pull.tail (Pull.tail ?P3)) (News.pull (Pull.tail ?P2) (News.pull ?P ?k4))) ?k5 ?kK ?kd ?ku ?_; (case a0 => assumption); (case a1 => with_reducible assumption); (case m1 => with_reducible assumption); (case k1 => k_asm); (case k2 => k_asm); (case k3 => k_asm); (case k4 => k_asm); (case k5 => k_asm); (case kK => first | exact rfl | assumption); (case P => repeat (first | exact Pull.head | apply Pull.tail)); (case P2 => repeat (first | exact Pull.head | apply Pull.tail)); (case P3 => repeat (first | exact Pull.head | apply Pull.tail)); (case m2 => (intro p9 hp9; k_mem)); (case a3 => assumption); (case a4 => with_reducible assumption); (case o1 => k_all); (case o2 => k_all); (case o3 => k_all); (case n1 => assumption); (case n2 => assumption); (case n3 => assumption); (case kd => ktr_room); (case ku => ktr_units)); intro es9 n9' pn9 t9 tt9 c9 h9 tk9 F9 N9 p9; refine' an5 p9 ?_; clear p9; intro RE9 q9 q9' q9'' b9; (try k_lt b9); (try k_sweep); (try dsimp only); (try k_fold))
      repeat ((fail_if_success (with_reducible show wpAny _ _ (call (.ref 764) _) _ _ _)); (first | (k_unfold; (try dsimp only)) | walk1 | (dsimp only; walk1)))
      k_here
      k_dflt (refine' SpecT.use (sees_law ?hR ?r1 ?e1 ?e2 ?lo2 ?r4 ?r6 ?r7 ?hE ?hM ?hH ?z1 ?z2 ?f1 ?f2 ?hne) ?B ?F ?X (News.pull (Pull.tail ?P2) (News.pull ?P ?N)) ?T ?XB ?TB ?D KtsTurn.refl ?kK ?kd ?ku ?_; (case F => k_asm); (case N => k_asm); (case X => k_asm); (case T => k_asm); (case B => k_asm); (case XB => assumption); (case TB => assumption); (case D => exact fun b hb => nomatch hb); (case kK => exact rfl); (case P => repeat (first | exact Pull.head | apply Pull.tail)); (case P2 => repeat (first | exact Pull.head | apply Pull.tail)))
      case hR => assumption
      case r1 => k_mem
      case e1 => k_mem
      case e2 => k_mem
      case lo2 => assumption
      case r4 => k_mem
      case r6 => k_mem
      case r7 => exact r7.mono (by intro p9 hp9; k_mem)
      case hE => exact hE2.mono (by intro p9 hp9; k_mem)
      case hM => exact MatchRep.mono (by with_reducible assumption) (by intro p9 hp9; k_mem)
      case hH => exact held_of (by with_reducible assumption) (by k_mem) (GRep.mono (by with_reducible assumption) (by intro p9 hp9; k_mem)) (by k_mem) (by k_mem) (by with_reducible assumption) (NRep.mono (by with_reducible assumption) (by intro p9 hp9; k_mem))
      case z1 => with_reducible assumption
      case z2 => rfl
      case f1 => k_all
      case f2 => k_all
      case hne => assumption
      case kd => ktr_room
      case ku => ktr_units
      intro r9 n9 h9 tk9 g9 T9 F9 N9 B9 X9 Tp9 D9 p9
      obtain ⟨k9, tk9', e9, e9'⟩ := p9
      subst e9
      subst e9'
      have F9' := turn_nil_F T9 F9
      have N9' := turn_nil_N T9 N9
      clear N9 F9 B9 X9 Tp9 D9 T9
      repeat (first | (k_unfold; (try dsimp only)) | walk1 | (dsimp only; walk1))
      simp only [List.push_toArray, savesL_len, hpo] at N9'
      have N10 := News.lawt N9'
      have Z := law_step (e := ⟨_, _, _, _, _⟩) N10 (by with_reducible assumption) (by with_reducible assumption)
        (Hist.cons (MatchRep.mono (by with_reducible assumption) (by intro p9 hp9; k_mem)) (held_of (by with_reducible assumption) (by k_mem) (GRep.mono (by with_reducible assumption) (by intro p9 hp9; k_mem)) (by k_mem) (by k_mem) (by with_reducible assumption) (NRep.mono (by with_reducible assumption) (by intro p9 hp9; k_mem))) (by with_reducible assumption) rfl (by k_mem) (hHi.mono (by intro p9 hp9; k_mem)))
        hms hnew
        (List.forall_mem_cons.mpr ⟨by with_reducible assumption, List.forall_mem_cons.mpr ⟨by with_reducible assumption, List.forall_mem_cons.mpr ⟨by with_reducible assumption, List.forall_mem_cons.mpr ⟨by with_reducible assumption, List.forall_mem_cons.mpr ⟨by with_reducible assumption, above_lt2 (by with_reducible assumption) (by with_reducible assumption)⟩⟩⟩⟩⟩)
        (List.forall_mem_cons.mpr ⟨Nat.ne_of_gt (by with_reducible assumption), List.forall_mem_cons.mpr ⟨Nat.ne_of_gt (by with_reducible assumption), List.forall_mem_cons.mpr ⟨Nat.ne_of_gt (by with_reducible assumption), List.forall_mem_cons.mpr ⟨Nat.ne_of_gt (by with_reducible assumption), List.forall_mem_cons.mpr ⟨Nat.ne_of_gt (by with_reducible assumption), above_ne (by with_reducible assumption) (by with_reducible assumption)⟩⟩⟩⟩⟩)
        w1 w2 w3 w4 w5 w6 w7 w8 w9 hoR
      obtain ⟨nx', z1, z2, z3⟩ := Z
      refine exI4 (a4 := nx') ⟨rfl, F9', z1, z2, z3, fun z q1 q2 => ?_⟩
      have q3 : z ≠ Str.ofString "match" := by
        intro q4
        subst q4
        exact absurd q2 (by decide)
      simp only [if_neg q1, if_neg q3, q2, Bool.false_eq_true, if_false]
    case done =>
      have hml := Low.mk hmk.2.2.2.2.2.2.2
      have hg1 : Low sgd mk := ⟨hmk.1⟩
      have hg2 : Low hpd mk := ⟨hmk.2.1⟩
      have hg3 : Low rnd mk := ⟨hmk.2.2.1⟩
      have hg4 : Low pd mk := ⟨hmk.2.2.2.1⟩
      have hg5 : Low sv mk := ⟨hmk.2.2.2.2.1⟩
      have hg6 : Low rk mk := ⟨hmk.2.2.2.2.2.1⟩
      have hg7 : Low gd mk := ⟨hmk.2.2.2.2.2.2.1⟩
      clear hmk
      repeat (with_reducible rename LT.lt _ _ => zz; clear zz)
      repeat (with_reducible rename AllLt _ _ => zz; clear zz)
      repeat (with_reducible rename Above _ _ => zz; clear zz)
      rintro j u' nx h tk hj3 hJ F5 N6
      k_unmd
      repeat ((fail_if_success (with_reducible show wpAny _ _ (exec (Stmt.While _ _ _ _) _) _ _ _)); (first | (k_unfold; (try dsimp only)) | walk1 | (dsimp only; walk1)))
      k_here
      refine While_lawJ F5 N6 hJ hj3 ?wt ?hE
      case hE => passes_own
      case wt =>
        rintro n0 nx2 h tk hn0 F7 N8 hJ2
        obtain ⟨l, es, n, pn, c1, c2, c3, nn, po, k', t', ms, new, h1, h2, h3, l1, l2, l3, k, t1, t2, t3, u1, u2, u3, tk0, lv, lim, zl, hnx, hk', hil, hRE, hpo, hHi, hms, hnew⟩ := hJ2
        subst hnx
        subst hil
        have up : ∀ {a : Addr}, Low a mk → ∀ p ∈ new, p.1 ≠ a := fun ha p hp => Nat.ne_of_gt (Nat.lt_trans ha.lt (hnew p hp))
        have y1 := up hg1
        have y2 := up hg2
        have y3 := up hg3
        have y4 := up hg4
        have y5 := up hg5
        have y6 := up hg6
        have y7 := up hg7
        have y8 := up hml
        have y9 : ∀ p ∈ new, p.1 ≠ mk := fun p hp => Nat.ne_of_gt (hnew p hp)
        have hRs := hRE.saves
        cases l with
        | nil =>
          obtain rfl : ms = [] := by cases (show IntsAre ms [] from hms); rfl
          have r8' := r8
          k_dflt obtain ⟨tbd9, es9, nn9, tkn9, x1, x2, x3, x4⟩ := r8'
          k_unmd
          k_fold
          repeat ((fail_if_success (with_reducible show wpAny _ _ (call (Value.ref 510) _) _ _ _)); (first | (k_unfold; (try dsimp only)) | k_extra "r macros_6" | walk1 | (dsimp only; walk1)))
          k_here
          k_dflt (refine' Spec.use0e (glob_again ?hR ?a1 ?a2 ?a3 ?a4 ?a6 ?hd0 ?lo ?hG ?hT) ?k1 ?k2 ?k3 (News.pull ?P ?k4) ?k5 ?kK ?kd ?ku ?_; (case hR => assumption); (case k1 => k_asm); (case k2 => k_asm); (case k3 => k_asm); (case k4 => k_asm); (case k5 => k_asm); (case kK => first | exact rfl | assumption); (case hd0 => assumption); (case P => repeat (first | exact Pull.head | apply Pull.tail)))
          case a1 => k_mem
          case a2 => k_mem
          case a3 => k_mem
          case a4 => k_mem
          case a6 => k_mem
          case lo => assumption
          case hG => exact r9.mono (by intro p9 hp9; k_mem)
          case hT => exact r8.mono (by intro p9 hp9; k_mem)
          case kd => ktr_room
          case ku => ktr_units
          intro h9 tk9 F9 N9
          repeat (first | (k_unfold; (try dsimp only)) | walk1 | (dsimp only; walk1))
          rw [beq_self_eq_true]
          subst hgg hdd hoo hG
          refine goodW_bool F9 ?hg (raisesW_false ?hn) ?hp
          case hg => dsimp only; with_reducible assumption
          case hn => wrow_none_raised
          case hp => kc_post
        | cons e l =>
          obtain ⟨ms', tx, hmse, hms'⟩ := ints_unsnoc (show IntsAre ms (marksN l ++ [(l.length : Int)]) from hms)
          subst hmse
          have hl3 : l.length + 1 ≤ 3 := hn0
          have hsl : (savesL l).length ≤ 10 := by rw [savesL_len]; omega
          have hmsl : ms'.length ≤ 10 := by rw [hms'.length, marksN_len]; omega
          obtain ⟨ta, hta, htal⟩ := toldL_last l
          have htl : ta.length ≤ 10 := by omega
          have htl2 : (ta ++ [mvOf l]).length ≤ 10 := by rw [List.length_append]; simp only [List.length_cons, List.length_nil]; omega
          rw [savesL_cons, toldL_cons, hta] at N8
          obtain ⟨tt, H5, hHl⟩ := hHi.tail
          obtain ⟨cu1, cu2, cu3, cu4⟩ := hHl.cur
          k_unmd
          k_fold
          repeat ((fail_if_success (with_reducible show wpAny _ _ (compareOp _ _ _) _ _ _)); (first | (k_unfold; (try dsimp only)) | walk1 | (dsimp only; walk1)))
          k_here
          k_dflt (refine' ne_longer1 ?k1 ?k2 ?k3 ?k4 ?_; (case k1 => k_asm); (case k2 => k_mem); (case k3 => k_mem); (case k4 => ktr_units))
          (repeat ((fail_if_success (with_reducible show wpAny _ _ (call (Value.ref 326) _) _ _ _)); (first | (k_unfold; (try dsimp only)) | k_extra "r setm_1" | walk1 | (dsimp only; walk1))))
          with_reducible (k_here; (with_reducible show wpAny _ _ (call (Value.ref 326) _) _ _ _); k_dflt (refine' Spec.use4 (leave_spec ?a0 (mem_up ?m1 ?m2) ?b2 ?hmk ?hl ?o1 ?o2 ?o3 ?n1 ?n2 ?n3) ?k1 ?k2 ?k3 (News.pull (Pull.tail (Pull.tail ?P3)) (News.pull (Pull.tail ?P2) (News.pull ?P ?k4))) ?k5 ?kK ?kd ?ku ?_; (case a0 => assumption); (case m1 => with_reducible assumption); (case k1 => k_asm); (case k2 => k_asm); (case k3 => k_asm); (case k4 => k_asm); (case k5 => k_asm); (case kK => first | exact rfl | assumption); (case P => repeat (first | exact Pull.head | apply Pull.tail)); (case P2 => repeat (first | exact Pull.head | apply Pull.tail)); (case P3 => repeat (first | exact Pull.head | apply Pull.tail)); (case m2 => (intro p9 hp9; k_mem)); (case b2 => k_mem); (case hmk => rw [savesL_len]); (case hl => with_reducible assumption); (case o1 => k_all); (case o2 => k_all); (case o3 => k_all); (case n1 => assumption); (case n2 => assumption); (case n3 => assumption); (case kd => ktr_room); (case ku => ktr_units)); intro es9 n9' pn9 c9 h9 tk9 F9 N9 RE9; (try k_sweep); (try dsimp only); (try k_fold))
          repeat ((fail_if_success (with_reducible show wpAny _ _ (subscriptTail _ _ (Value.ref _) (Value.int _ _)) _ _ _)); (first | (k_unfold; (try dsimp only)) | k_extra "r setm_1" | walk1 | (dsimp only; walk1)))
          k_here
          k_dflt (refine' item_last (a := ta) (x := mvOf l) ?k1 ?k2 ?k3 ?_ ?k5; (case k1 => k_asm); (case k2 => k_mem); (case k3 => omega); (case k5 => with_unfolding_all rfl))
          repeat ((fail_if_success (with_reducible show wpAny _ _ (call (.ref 764) _) _ _ _)); (first | (k_unfold; (try dsimp only)) | walk1 | (dsimp only; walk1)))
          k_here
          k_dflt (refine' SpecT.use (sees_law ?hR ?r1 ?e1 ?e2 ?lo2 ?r4 ?r6 ?r7 ?hE ?hM ?hH ?z1 ?z2 ?f1 ?f2 ?hne) ?B ?F ?X (News.pull (Pull.tail ?P2) (News.pull ?P ?N)) ?T ?XB ?TB ?D KtsTurn.refl ?kK ?kd ?ku ?_; (case F => k_asm); (case N => k_asm); (case X => k_asm); (case T => k_asm); (case B => k_asm); (case XB => assumption); (case TB => assumption); (case D => exact fun b hb => nomatch hb); (case kK => exact rfl); (case P => repeat (first | exact Pull.head | apply Pull.tail)); (case P2 => repeat (first | exact Pull.head | apply Pull.tail)))
          case hR => assumption
          case r1 => k_mem
          case e1 => k_mem
          case e2 => k_mem
          case lo2 => assumption
          case r4 => k_mem
          case r6 => k_mem
          case r7 => exact r7.mono (by intro p9 hp9; k_mem)
          case hE => exact hE2.mono (by intro p9 hp9; k_mem)
          case hM => exact cu1.mono (by intro p9 hp9; k_mem)
          case hH => exact cu2.mono (by intro p9 hp9; k_mem)
          case z1 => with_reducible assumption
          case z2 => with_reducible assumption
          case f1 => k_all
          case f2 => k_all
          case hne => assumption
          case kd => ktr_room
          case ku => ktr_units
          intro r9 n9 h9 tk9 g9 T9 F9 N9 B9 X9 Tp9 D9 p9
          obtain ⟨k9, tk9', e9, e9'⟩ := p9
          subst e9
          subst e9'
          have F9' := turn_nil_F T9 F9
          have N9' := turn_nil_N T9 N9
          clear N9 F9 B9 X9 Tp9 D9 T9
          repeat (first | (k_unfold; (try dsimp only)) | walk1 | (dsimp only; walk1))
          have N10 := News.lawb N9'
          rw [← hta] at N10
          obtain ⟨nx', z1, z2⟩ := law_back N10 hk' (by with_reducible assumption) hHl hms' hnew
          exact exI5 (a4 := nx') (a5 := l.length) ⟨rfl, F9', z1, Nat.lt_succ_self _, rfl, Nat.le_of_succ_le hl3, z2⟩
theorem lawX : PySem.Challenge.rw_qz0105_01.Holds := Mine.k ⟨Mine.hl lawW, lawW⟩
end Mine
theorem PySem.Challenge.cw_qz0105_01_holds : PySem.Challenge.rw_qz0105_01.Holds :=
  Mine.lawX
